import PyProof.Rows.All
import Wide.All
import OpenK.AllK
import Wide.FinOn
import HandS.ForMost
import HandS.Walk
import HandS.Lambda
import HandS.ExcOwn
import HandS.Wide
import HandS.TupAny
import HandS.IsInst
import HandS.Conv
import HandS.WideBits
import KE.GoesEnum
import KE.GoesMore
import HandS.Style
import HandS.SetFor
import HandS.Sort
import PyProof.StrWalks
import PyProof.ListStr
import HandS.Defaults
import HandS.ExcInit
import HandS.WordsExc
import PySem.Challenge.RW_eithermended_k83_whole_edits_between_tex
import HandS.ExcIs
import HandS.ExcField
import KE.KExcIs
import HandS.EndBits
import KE.KNest
import HandS.Flt
import PyProof.EnumMake
import HandS.TupMul
import HandS.Codes
set_option Elab.async false
set_option linter.all false
set_option maxRecDepth 100000
/-! DL1: plain data over the hand layer: values by content, what may change by address; the judgements lifted to it. -/
namespace DL
open PySem PySem.Spec L2
open PyProof.Rows hiding St

/-- plain data; ref: an object told by its address -/
inductive D where
  | non | bl (b : Bool) | int (i : Int) | str (x : Str) | tup (xs : List D) | lst (xs : List D) | slst (xs : List D) | ref (a : Addr) | dct (ks : List (Int ⊕ Str)) (xs : List D) | exc (x : Str) (v : D)

/-- at a: an exception of the class at C that was caught, its dict at dx -/
def ExK (C dx a : Addr) : HO := .ext fun h => ∃ (oe : Obj) (vs : Array Value), h.get? a = some oe ∧ Zc (.ref C) (some dx) oe ∧ oe.data = .fields vs
mutual
inductive Rp (K : PySem.W.Frag) (F : Hp) : V → D → Prop
  | non : Rp K F .non .non
  | bl (b : Bool) : Rp K F (.bl b) (.bl b)
  | int (i : Int) : Rp K F (.int i) (.int i)
  | str (x : Str) : Rp K F (.str x) (.str x)
  | ref (a : Addr) : Rp K F (.ref a) (.ref a)
  | tup {a : Addr} {xs : List V} {ds : List D} : SqT K F a xs → RpAll K F xs ds → Rp K F (.ref a) (.tup ds)
  | lst {a : Addr} {xs : List V} {ds : List D} : F a = some (.lst xs) → RpAll K F xs ds → Rp K F (.ref a) (.lst ds)
  | slst {a : Addr} {xs : List V} {ds : List D} : SqL K F a xs → RpAll K F xs ds → Rp K F (.ref a) (.slst ds)
  | dct {a : Addr} {ks : List (Int ⊕ Str)} {xs : List V} {ds : List D} : F a = some (.dK (ks.zip xs)) → ks.length = xs.length → RpAll K F xs ds → Rp K F (.ref a) (.dct ks ds)
  | exc {a C dx : Addr} {u : V} {x : Str} {v : D} : PySem.W.nsIn K mainGlobals x = some (some (.ref C)) → F a = some (ExK C dx a) → F dx = some (.xd [("value", u)]) → Rp K F u v → Rp K F (.ref a) (.exc x v)
inductive RpAll (K : PySem.W.Frag) (F : Hp) : List V → List D → Prop
  | nil : RpAll K F [] []
  | cons {v : V} {vs : List V} {d : D} {ds : List D} : Rp K F v d → RpAll K F vs ds → RpAll K F (v :: vs) (d :: ds)
end

theorem Same.tseq {K : PySem.W.Frag} {H H' : Hp} {a : Addr} {xs : List V} (e : Same H H') (h : SqT K H a xs) : SqT K H' a xs := by
  rcases h with (h | ⟨o, h⟩) | h
  · exact .inl (.inl (e _ _ h))
  · exact .inl (.inr ⟨o, e _ _ h⟩)
  · exact .inr h
mutual
theorem Rp.mono {K : PySem.W.Frag} {F F' : Hp} (e : Same F F') : ∀ {v : V} {d : D}, Rp K F v d → Rp K F' v d
  | _, _, .non => .non
  | _, _, .bl b => .bl b
  | _, _, .int i => .int i
  | _, _, .str x => .str x
  | _, _, .ref a => .ref a
  | _, _, .tup s r => .tup (Same.tseq e s) (RpAll.mono e r)
  | _, _, .lst s r => .lst (e _ _ s) (RpAll.mono e r)
  | _, _, .slst s r => .slst (e.seq s) (RpAll.mono e r)
  | _, _, .dct h l r => .dct (e _ _ h) l (RpAll.mono e r)
  | _, _, .exc n h1 h2 r => .exc n (e _ _ h1) (e _ _ h2) (Rp.mono e r)
theorem RpAll.mono {K : PySem.W.Frag} {F F' : Hp} (e : Same F F') : ∀ {vs : List V} {ds : List D}, RpAll K F vs ds → RpAll K F' vs ds
  | _, _, .nil => .nil
  | _, _, .cons h t => .cons (Rp.mono e h) (RpAll.mono e t)
end
theorem RpAll.length {K : PySem.W.Frag} {F : Hp} : ∀ {vs : List V} {ds : List D}, RpAll K F vs ds → vs.length = ds.length
  | _, _, .nil => rfl
  | _, _, .cons _ t => congrArg (· + 1) (RpAll.length t)
theorem RpAll.get {K : PySem.W.Frag} {F : Hp} : ∀ {vs : List V} {ds : List D} {i : Nat} {d : D}, RpAll K F vs ds → ds[i]? = some d → ∃ v, vs[i]? = some v ∧ Rp K F v d
  | _, _, _, _, .nil, e => by simp at e
  | _, _, 0, _, .cons h _, e => by simp at e; subst e; exact ⟨_, rfl, h⟩
  | _, _, i + 1, _, .cons _ t, e => by
    obtain ⟨v, h1, h2⟩ := RpAll.get (i := i) t (by simpa using e)
    exact ⟨v, by simpa using h1, h2⟩
theorem RpAll.get' {K : PySem.W.Frag} {F : Hp} : ∀ {vs : List V} {ds : List D} {i : Nat} {v : V}, RpAll K F vs ds → vs[i]? = some v → ∃ d, ds[i]? = some d ∧ Rp K F v d
  | _, _, _, _, .nil, e => by simp at e
  | _, _, 0, _, .cons h _, e => by simp at e; subst e; exact ⟨_, rfl, h⟩
  | _, _, i + 1, _, .cons _ t, e => by
    obtain ⟨v, h1, h2⟩ := RpAll.get' (i := i) t (by simpa using e)
    exact ⟨v, by simpa using h1, h2⟩
theorem RpAll.append {K : PySem.W.Frag} {F : Hp} : ∀ {vs ws : List V} {ds es : List D}, RpAll K F vs ds → RpAll K F ws es → RpAll K F (vs ++ ws) (ds ++ es)
  | _, _, _, _, .nil, s => s
  | _, _, _, _, .cons h t, s => .cons h (RpAll.append t s)
theorem RpAll.take {K : PySem.W.Frag} {F : Hp} : ∀ {vs : List V} {ds : List D} (n : Nat), RpAll K F vs ds → RpAll K F (vs.take n) (ds.take n)
  | _, _, 0, _ => by simpa using RpAll.nil
  | _, _, _ + 1, .nil => .nil
  | _, _, n + 1, .cons h t => .cons h (RpAll.take n t)
theorem RpAll.drop {K : PySem.W.Frag} {F : Hp} : ∀ {vs : List V} {ds : List D} (n : Nat), RpAll K F vs ds → RpAll K F (vs.drop n) (ds.drop n)
  | _, _, 0, r => by simpa using r
  | _, _, _ + 1, .nil => .nil
  | _, _, n + 1, .cons _ t => RpAll.drop n t
theorem RpAll.set {K : PySem.W.Frag} {F : Hp} {v : V} {d : D} (h : Rp K F v d) : ∀ {vs : List V} {ds : List D} (n : Nat), RpAll K F vs ds → RpAll K F (vs.set n v) (ds.set n d)
  | _, _, _, .nil => .nil
  | _, _, 0, .cons _ t => .cons h t
  | _, _, n + 1, .cons x t => .cons x (RpAll.set h n t)
theorem RpAll.dropLast {K : PySem.W.Frag} {F : Hp} {vs : List V} {ds : List D} (h : RpAll K F vs ds) : RpAll K F vs.dropLast ds.dropLast := by
  rw [List.dropLast_eq_take, List.dropLast_eq_take, h.length]
  exact h.take _
theorem RpAll.eraseIdx {K : PySem.W.Frag} {F : Hp} : ∀ {vs : List V} {ds : List D} (n : Nat), RpAll K F vs ds → RpAll K F (vs.eraseIdx n) (ds.eraseIdx n)
  | _, _, _, .nil => .nil
  | _, _, 0, .cons _ t => t
  | _, _, n + 1, .cons x t => .cons x (RpAll.eraseIdx n t)
theorem RpAll.reverse {K : PySem.W.Frag} {F : Hp} : ∀ {vs : List V} {ds : List D}, RpAll K F vs ds → RpAll K F vs.reverse ds.reverse
  | _, _, .nil => .nil
  | _, _, .cons h t => by
    rw [List.reverse_cons, List.reverse_cons]
    exact (RpAll.reverse t).append (.cons h .nil)
theorem RpAll.rep {K : PySem.W.Frag} {F : Hp} {vs : List V} {ds : List D} (h : RpAll K F vs ds) : ∀ k : Nat, RpAll K F (List.replicate k vs).flatten (List.replicate k ds).flatten
  | 0 => .nil
  | k + 1 => by
    rw [List.replicate_succ, List.replicate_succ, List.flatten_cons, List.flatten_cons]
    exact h.append (RpAll.rep h k)

/-! ### what may change -/
inductive MO where
  | lst (ds : List D)
abbrev Mp := Addr → Option MO
def mu (M : Mp) (a : Addr) (o : MO) : Mp := fun b => if b = a then some o else M b
theorem mu_same {M : Mp} {a : Addr} {o : MO} : mu M a o a = some o := by unfold mu; rw [if_pos rfl]
theorem mu_ne {M : Mp} {a b : Addr} {o : MO} (h : b ≠ a) : mu M a o b = M b := by unfold mu; rw [if_neg h]
theorem mu_mu {M : Mp} {a : Addr} {o u : MO} : mu (mu M a o) a u = mu M a u := by
  funext b; unfold mu; split <;> rfl
def md (M : Mp) (a : Addr) : Mp := fun b => if b = a then none else M b
theorem md_mu {M : Mp} {a : Addr} {o : MO} (h : M a = none) : md (mu M a o) a = M := by
  funext b; unfold md mu
  by_cases e : b = a
  · rw [if_pos e, e, h]
  · rw [if_neg e, if_neg e]

def RepO (K : PySem.W.Frag) (F : Hp) : HO → MO → Prop
  | .lst xs, .lst ds => RpAll K F xs ds
  | _, _ => False
theorem RepO.mono {K : PySem.W.Frag} {F F' : Hp} (e : Same F F') {o : HO} {m : MO} (h : RepO K F o m) : RepO K F' o m := by
  cases o <;> cases m <;> simp only [RepO] at h ⊢
  exact h.mono e
abbrev TT8 := List (Addr × Str)
/-- what is tracked, what may change; no table of code objects is held fast -/
structure RelR (K : PySem.W.Frag) (F : Hp) (M : Mp) (H : Hp) : Prop where
  sub : Same F H
  mt : ∀ a m, M a = some m → F a = none ∧ ∃ o, H a = some o ∧ RepO K F o m
  nt : ∀ a ps, F a ≠ some (.tbl ps)

/-- a step of the state: what is held fast stays, what isn't told stays untouched and untold, the tables are kept in order -/
structure StpR (K : PySem.W.Frag) (T : TT8) (F : Hp) (M : Mp) (H : Hp) (F' : Hp) (M' : Mp) (H' : Hp) : Prop where
  same : Same F F'
  rel : RelR K F' M' H'
  fr : ∀ a o, H a = some o → F a = none → M a = none → (∀ ps, o ≠ .tbl ps) → H' a = some o ∧ F' a = none ∧ M' a = none
  tab : LamX.Tabs T H → LamX.Tabs T H'
theorem StpR.refl {K : PySem.W.Frag} {T : TT8} {F : Hp} {M : Mp} {H : Hp} (R : RelR K F M H) : StpR K T F M H F M H := ⟨Same.refl F, R, fun _ _ h f m _ => ⟨h, f, m⟩, id⟩
theorem StpR.trans {K : PySem.W.Frag} {T : TT8} {F F1 F2 : Hp} {M M1 M2 : Mp} {H H1 H2 : Hp} (a : StpR K T F M H F1 M1 H1) (b : StpR K T F1 M1 H1 F2 M2 H2) : StpR K T F M H F2 M2 H2 :=
  ⟨a.same.trans b.same, b.rel, fun x o h f m n => let ⟨h1, f1, m1⟩ := a.fr x o h f m n; b.fr x o h1 f1 m1 n, fun t => b.tab (a.tab t)⟩
section
variable {K : PySem.W.Frag} {T : TT8} {F : Hp} {M : Mp} {H : Hp}
theorem RelR.fnone (R : RelR K F M H) {p : Addr} (h : H p = none) : F p = none := R.sub.free h
theorem RelR.mnone (R : RelR K F M H) {p : Addr} (h : H p = none) : M p = none := by
  cases q : M p with
  | none => rfl
  | some m =>
    obtain ⟨_, o, e, _⟩ := R.mt p m q
    rw [h] at e; cases e
theorem same_new {F : Hp} {p : Addr} {o : HO} (h : F p = none) : Same F (upd F p o) := fun b u q => by rw [upd_ne (ne_of_none q h)]; exact q
theorem tabs_new {p : Addr} (h : H p = none) (o : HO) (t : LamX.Tabs T H) : LamX.Tabs T (upd H p o) := LamX.Tabs.ext t fun b u e => by rw [upd_ne (ne_of_none e h)]; exact e
theorem code_lst {c : Addr} {q : Str} {xs : List V} : LamX.CodeO c q ≠ .lst xs := fun h => by unfold LamX.CodeO at h; cases h
theorem tabs_lst {p : Addr} {xs ys : List V} (h : H p = some (.lst xs)) (t : LamX.Tabs T H) : LamX.Tabs T (upd H p (.lst ys)) := fun z hz => by
  obtain ⟨ps, h1, h2, h3⟩ := t z hz
  refine ⟨ps, ?_, h2, fun pos cv hc => ?_⟩
  · rw [upd_ne (fun e => by rw [e, h] at h1; cases h1)]; exact h1
  · obtain ⟨c, e1, e2⟩ := h3 pos cv hc
    refine ⟨c, e1, ?_⟩
    rw [upd_ne (fun e => by rw [e, h] at e2; exact code_lst (Option.some.inj e2).symm)]; exact e2
/-- a new object that never changes -/
theorem RelR.newF (R : RelR K F M H) {p : Addr} (h : H p = none) (o : HO) (hn : ∀ ps, o ≠ .tbl ps) : StpR K T F M H (upd F p o) M (upd H p o) := by
  have s : Same F (upd F p o) := same_new (R.fnone h)
  refine ⟨s, ⟨fun b u q => ?_, fun a m q => ?_, fun a ps q => ?_⟩, fun a u q f m _ => ?_, tabs_new h o⟩
  · by_cases e : b = p
    · subst e; rw [upd_same] at q ⊢; exact q
    · rw [upd_ne e] at q ⊢; exact R.sub _ _ q
  · obtain ⟨f, u, e, r⟩ := R.mt a m q
    have ne : a ≠ p := ne_of_none e h
    exact ⟨by rw [upd_ne ne]; exact f, u, by rw [upd_ne ne]; exact e, r.mono s⟩
  · by_cases e : a = p
    · subst e; rw [upd_same] at q; exact hn ps (Option.some.inj q)
    · rw [upd_ne e] at q; exact R.nt a ps q
  · have ne : a ≠ p := ne_of_none q h
    rw [upd_ne ne, upd_ne ne]; exact ⟨q, f, m⟩
/-- a new object that may change -/
theorem RelR.newM (R : RelR K F M H) {p : Addr} (h : H p = none) {o : HO} {m : MO} (r : RepO K F o m) : StpR K T F M H F (mu M p m) (upd H p o) := by
  refine ⟨Same.refl F, ⟨fun b u q => ?_, fun a n q => ?_, R.nt⟩, fun a u q f n _ => ?_, tabs_new h o⟩
  · have e : b ≠ p := ne_of_none (R.sub _ _ q) h
    rw [upd_ne e]; exact R.sub _ _ q
  · by_cases e : a = p
    · subst e
      rw [mu_same] at q; cases q
      exact ⟨R.fnone h, o, upd_same, r⟩
    · rw [mu_ne e] at q
      obtain ⟨f, u, e2, r2⟩ := R.mt a n q
      exact ⟨f, u, by rw [upd_ne e]; exact e2, r2⟩
  · have ne : a ≠ p := ne_of_none q h
    rw [upd_ne ne, mu_ne ne]; exact ⟨q, f, n⟩
/-- a list that may change is changed -/
theorem RelR.set (R : RelR K F M H) {p : Addr} {ds0 ds : List D} (h : M p = some (.lst ds0)) {xs : List V} (r : RpAll K F xs ds) : StpR K T F M H F (mu M p (.lst ds)) (upd H p (.lst xs)) := by
  obtain ⟨f0, o0, e0, r0⟩ := R.mt p _ h
  have e1 : ∃ ys, o0 = .lst ys := by
    cases o0 with
    | lst ys => exact ⟨ys, rfl⟩
    | _ => exact r0.elim
  obtain ⟨ys, rfl⟩ := e1
  refine ⟨Same.refl F, ⟨fun b u q => ?_, fun a n q => ?_, R.nt⟩, fun a u q f n _ => ?_, tabs_lst e0⟩
  · have e : b ≠ p := ne_of_none q f0
    rw [upd_ne e]; exact R.sub _ _ q
  · by_cases e : a = p
    · subst e
      rw [mu_same] at q; cases q
      exact ⟨f0, _, upd_same, r⟩
    · rw [mu_ne e] at q
      obtain ⟨f, u, e2, r2⟩ := R.mt a n q
      exact ⟨f, u, by rw [upd_ne e]; exact e2, r2⟩
  · have ne : a ≠ p := fun e => by subst e; rw [h] at n; cases n
    rw [upd_ne ne, mu_ne ne]; exact ⟨q, f, n⟩
/-- an object that may change is held fast from here on -/
theorem RelR.hold (R : RelR K F M H) {p : Addr} {ds : List D} (h : M p = some (.lst ds)) : ∃ F', StpR K T F M H F' (md M p) H ∧ Rp K F' (.ref p) (.lst ds) := by
  obtain ⟨f0, o, e0, r0⟩ := R.mt p _ h
  cases o with
  | lst xs =>
    have s : Same F (upd F p (.lst xs)) := same_new f0
    refine ⟨upd F p (.lst xs), ⟨s, ⟨fun b u q => ?_, fun a m q => ?_, fun a ps q => ?_⟩, fun a u q f n _ => ?_, id⟩, .lst upd_same (RpAll.mono s r0)⟩
    · by_cases e : b = p
      · subst e; rw [upd_same] at q; rw [e0, ← q]
      · rw [upd_ne e] at q; exact R.sub _ _ q
    · unfold md at q
      by_cases e : a = p
      · rw [if_pos e] at q; cases q
      · rw [if_neg e] at q
        obtain ⟨f, u, e2, r2⟩ := R.mt a m q
        exact ⟨by rw [upd_ne e]; exact f, u, e2, r2.mono s⟩
    · by_cases e : a = p
      · subst e; rw [upd_same] at q; cases q
      · rw [upd_ne e] at q; exact R.nt a ps q
    · have ne : a ≠ p := fun e => by subst e; rw [h] at n; cases n
      unfold md
      rw [upd_ne ne, if_neg ne]; exact ⟨q, f, n⟩
  | _ => exact r0.elim
theorem RelR.lst (R : RelR K F M H) {p : Addr} {ds : List D} (h : M p = some (.lst ds)) : ∃ xs, H p = some (.lst xs) ∧ RpAll K F xs ds := by
  obtain ⟨_, o, e0, r0⟩ := R.mt p _ h
  cases o with
  | lst xs => exact ⟨xs, e0, r0⟩
  | _ => exact r0.elim
end
/-- what is kept in sight beside: the tables, and any J that lasts through steps -/
structure KJ (K : PySem.W.Frag) where
  T : TT8
  J : Hp → Mp → Hp → Prop
  cl : ∀ {F : Hp} {M : Mp} {H F' : Hp} {M' : Mp} {H' : Hp}, J F M H → StpR K T F M H F' M' H' → J F' M' H'
structure Rel {K : PySem.W.Frag} (Y : KJ K) (F : Hp) (M : Mp) (H : Hp) : Prop where
  r : RelR K F M H
  j : Y.J F M H
theorem Rel.sub {K : PySem.W.Frag} {Y : KJ K} {F : Hp} {M : Mp} {H : Hp} (R : Rel Y F M H) : Same F H := R.r.sub
theorem Rel.mt {K : PySem.W.Frag} {Y : KJ K} {F : Hp} {M : Mp} {H : Hp} (R : Rel Y F M H) : ∀ a m, M a = some m → F a = none ∧ ∃ o, H a = some o ∧ RepO K F o m := R.r.mt
structure Stp {K : PySem.W.Frag} (Y : KJ K) (F : Hp) (M : Mp) (H : Hp) (F' : Hp) (M' : Mp) (H' : Hp) : Prop where
  s : StpR K Y.T F M H F' M' H'
  rel : Rel Y F' M' H'
theorem Stp.same {K : PySem.W.Frag} {Y : KJ K} {F F' : Hp} {M M' : Mp} {H H' : Hp} (s : Stp Y F M H F' M' H') : Same F F' := s.s.same
theorem Stp.fr {K : PySem.W.Frag} {Y : KJ K} {F F' : Hp} {M M' : Mp} {H H' : Hp} (s : Stp Y F M H F' M' H') : ∀ a o, H a = some o → F a = none → M a = none → (∀ ps, o ≠ .tbl ps) → H' a = some o ∧ F' a = none ∧ M' a = none := s.s.fr
theorem Stp.of {K : PySem.W.Frag} {Y : KJ K} {F F' : Hp} {M M' : Mp} {H H' : Hp} (R : Rel Y F M H) (s : StpR K Y.T F M H F' M' H') : Stp Y F M H F' M' H' := ⟨s, s.rel, Y.cl R.j s⟩
theorem Stp.refl {K : PySem.W.Frag} {Y : KJ K} {F : Hp} {M : Mp} {H : Hp} (R : Rel Y F M H) : Stp Y F M H F M H := ⟨StpR.refl R.r, R⟩
theorem Stp.trans {K : PySem.W.Frag} {Y : KJ K} {F F1 F2 : Hp} {M M1 M2 : Mp} {H H1 H2 : Hp} (a : Stp Y F M H F1 M1 H1) (b : Stp Y F1 M1 H1 F2 M2 H2) : Stp Y F M H F2 M2 H2 := ⟨a.s.trans b.s, b.rel⟩
section
variable {K : PySem.W.Frag} {Y : KJ K} {F : Hp} {M : Mp} {H : Hp}
theorem Rel.fnone (R : Rel Y F M H) {p : Addr} (h : H p = none) : F p = none := R.r.fnone h
theorem Rel.mnone (R : Rel Y F M H) {p : Addr} (h : H p = none) : M p = none := R.r.mnone h
theorem Rel.newF (R : Rel Y F M H) {p : Addr} (h : H p = none) (o : HO) (hn : ∀ ps, o ≠ .tbl ps := by intro ps z; cases z) : Stp Y F M H (upd F p o) M (upd H p o) := Stp.of R (R.r.newF h o hn)
theorem Rel.newM (R : Rel Y F M H) {p : Addr} (h : H p = none) {o : HO} {m : MO} (r : RepO K F o m) : Stp Y F M H F (mu M p m) (upd H p o) := Stp.of R (R.r.newM h r)
theorem Rel.set (R : Rel Y F M H) {p : Addr} {ds0 ds : List D} (h : M p = some (.lst ds0)) {xs : List V} (r : RpAll K F xs ds) : Stp Y F M H F (mu M p (.lst ds)) (upd H p (.lst xs)) := Stp.of R (R.r.set h r)
theorem Rel.hold (R : Rel Y F M H) {p : Addr} {ds : List D} (h : M p = some (.lst ds)) : ∃ F', Stp Y F M H F' (md M p) H ∧ Rp K F' (.ref p) (.lst ds) := let ⟨F', s, r⟩ := R.r.hold h; ⟨F', Stp.of R s, r⟩
theorem Rel.lst (R : Rel Y F M H) {p : Addr} {ds : List D} (h : M p = some (.lst ds)) : ∃ xs, H p = some (.lst xs) ∧ RpAll K F xs ds := R.r.lst h
end

/-! ### the slots -/
abbrev Rho := List (Option D)
def RelS (K : PySem.W.Frag) (F : Hp) (σ : St) (ρ : Rho) : Prop := σ.length = ρ.length ∧ ∀ (i : Nat) (d : D), ρ[i]? = some (some d) → ∃ v, σ[i]? = some (some v) ∧ Rp K F v d
section
variable {K : PySem.W.Frag} {F F' : Hp} {σ : St} {ρ : Rho}
theorem RelS.mono (h : RelS K F σ ρ) (e : Same F F') : RelS K F' σ ρ := ⟨h.1, fun i d q => let ⟨v, a, b⟩ := h.2 i d q; ⟨v, a, b.mono e⟩⟩
theorem RelS.set (h : RelS K F σ ρ) {v : V} {d : D} (r : Rp K F v d) (i : Nat) : RelS K F (σ.set i (some v)) (ρ.set i (some d)) := by
  refine ⟨by rw [List.length_set, List.length_set]; exact h.1, fun j e q => ?_⟩
  by_cases ij : i = j
  · subst ij
    have hl : i < ρ.length := by
      have := List.getElem?_eq_some_iff.mp q
      obtain ⟨a, _⟩ := this
      simpa using a
    rw [List.getElem?_set_self hl] at q
    cases q
    exact ⟨v, by rw [List.getElem?_set_self (by rw [h.1]; exact hl)], r⟩
  · rw [List.getElem?_set_ne ij] at q ⊢
    exact h.2 j e q
def dwipe (ρ : Rho) : List Nat → Rho
  | [] => ρ
  | v :: vs => (dwipe ρ vs).set v none
theorem RelS.wipe (h : RelS K F σ ρ) : ∀ vs : List Nat, RelS K F (L2.wipe σ vs) (dwipe ρ vs)
  | [] => h
  | v :: vs => by
    have ih := RelS.wipe h vs
    unfold L2.wipe dwipe
    refine ⟨by rw [List.length_set, List.length_set]; exact ih.1, fun j e q => ?_⟩
    by_cases ij : v = j
    · subst ij
      by_cases hl : v < (dwipe ρ vs).length
      · rw [List.getElem?_set_self hl] at q; cases q
      · rw [List.getElem?_eq_none (by simpa using hl)] at q; cases q
    · rw [List.getElem?_set_ne ij] at q ⊢
      exact ih.2 j e q
end

/-! ### the judgements -/
abbrev DK := D → Mp → Prop
abbrev DTE := Rho → Mp → DK → Prop
abbrev DTT := Rho → Mp → (Bool → Mp → Prop) → Prop
abbrev DTA := Rho → Mp → (List D → Mp → Prop) → Prop
structure DEnds where
  nx : Rho → Mp → Prop
  rt : DK
  bk : Rho → Mp → Prop := fun _ _ => False
  ct : Rho → Mp → Prop := fun _ _ => False
abbrev DTS := DEnds → Rho → Mp → Prop

def canE {K : PySem.W.Frag} (Y : KJ K) (t : DTE) : TE := fun σ H Q0 => ∃ F M ρ Q, RelS K F σ ρ ∧ Rel Y F M H ∧ t ρ M Q ∧
  ∀ v d F' M' H', Stp Y F M H F' M' H' → Rp K F' v d → Q d M' → Q0 v H'
def canT {K : PySem.W.Frag} (Y : KJ K) (t : DTT) : TT := fun σ H Q0 => ∃ F M ρ Q, RelS K F σ ρ ∧ Rel Y F M H ∧ t ρ M Q ∧
  ∀ b F' M' H', Stp Y F M H F' M' H' → Q b M' → Q0 b H'
def canA {K : PySem.W.Frag} (Y : KJ K) (t : DTA) : TA := fun σ H Q0 => ∃ F M ρ Q, RelS K F σ ρ ∧ Rel Y F M H ∧ t ρ M Q ∧
  ∀ vs ds F' M' H', Stp Y F M H F' M' H' → RpAll K F' vs ds → Q ds M' → Q0 vs H'
structure EndsOk {K : PySem.W.Frag} (Y : KJ K) (F : Hp) (M : Mp) (H : Hp) (D : DEnds) (D0 : Ends) : Prop where
  nx : ∀ σ' ρ' F' M' H', Stp Y F M H F' M' H' → RelS K F' σ' ρ' → D.nx ρ' M' → D0.nx σ' H'
  rt : ∀ v d F' M' H', Stp Y F M H F' M' H' → Rp K F' v d → D.rt d M' → D0.rt v H'
  bk : ∀ σ' ρ' F' M' H', Stp Y F M H F' M' H' → RelS K F' σ' ρ' → D.bk ρ' M' → D0.bk σ' H'
  ct : ∀ σ' ρ' F' M' H', Stp Y F M H F' M' H' → RelS K F' σ' ρ' → D.ct ρ' M' → D0.ct σ' H'
theorem EndsOk.mono {K : PySem.W.Frag} {Y : KJ K} {F F1 : Hp} {M M1 : Mp} {H H1 : Hp} {D : DEnds} {D0 : Ends} (e : EndsOk Y F M H D D0) (s : Stp Y F M H F1 M1 H1) : EndsOk Y F1 M1 H1 D D0 :=
  ⟨fun a b c d f h => e.nx a b c d f (s.trans h), fun a b c d f h => e.rt a b c d f (s.trans h), fun a b c d f h => e.bk a b c d f (s.trans h), fun a b c d f h => e.ct a b c d f (s.trans h)⟩
def canS {K : PySem.W.Frag} (Y : KJ K) (t : DTS) : TS := fun D0 σ H => ∃ F M ρ D, RelS K F σ ρ ∧ Rel Y F M H ∧ t D ρ M ∧ EndsOk Y F M H D D0

abbrev DE (X : Cx) (Y : KJ X.K) (e : Expr) (t : DTE) : Prop := PE X e (canE Y t)
abbrev DT (X : Cx) (Y : KJ X.K) (e : Expr) (t : DTT) : Prop := PT X e (canT Y t)
abbrev DW (X : Cx) (Y : KJ X.K) (e : Expr) (t : DTT) : Prop := PW X e (canT Y t)
abbrev DA (X : Cx) (Y : KJ X.K) (es : List Expr) (t : DTA) : Prop := PA X es (canA Y t)
abbrev DS (X : Cx) (Y : KJ X.K) (s : Stmt) (t : DTS) : Prop := PS X s (canS Y t)
abbrev DSs (X : Cx) (Y : KJ X.K) (ss : List Stmt) (t : DTS) : Prop := PSs X ss (canS Y t)

section
variable {X : Cx} {Y : KJ X.K}
theorem PE.weak {e : Expr} {t u : TE} (h : PE X e t) (w : ∀ σ H Q, u σ H Q → t σ H Q) : PE X e u := ⟨fun p s σ H Q I q => h.run p s σ H Q I (w σ H Q q)⟩
theorem PT.weak {e : Expr} {t u : TT} (h : PT X e t) (w : ∀ σ H Q, u σ H Q → t σ H Q) : PT X e u := ⟨fun p s σ H Q I q => h.run p s σ H Q I (w σ H Q q)⟩
theorem PW.weak {e : Expr} {t u : TT} (h : PW X e t) (w : ∀ σ H Q, u σ H Q → t σ H Q) : PW X e u := ⟨fun wh p s σ H Q I q => h.run wh p s σ H Q I (w σ H Q q)⟩
theorem PA.weak {es : List Expr} {t u : TA} (h : PA X es t) (w : ∀ σ H Q, u σ H Q → t σ H Q) : PA X es u := ⟨fun ps p s σ H Q I q => h.run ps p s σ H Q I (w σ H Q q)⟩
theorem PS.weak {e : Stmt} {t u : TS} (h : PS X e t) (w : ∀ D σ H, u D σ H → t D σ H) : PS X e u := ⟨fun p s σ H D I q => h.run p s σ H D I (w D σ H q)⟩
theorem PSs.weak {e : List Stmt} {t u : TS} (h : PSs X e t) (w : ∀ D σ H, u D σ H → t D σ H) : PSs X e u := ⟨fun p s σ H D I q => h.run p s σ H D I (w D σ H q)⟩
theorem PTs.weak {ifs : List Expr} {t u : TT} (h : PTs X ifs t) (w : ∀ σ H Q, u σ H Q → t σ H Q) : PTs X ifs u := ⟨fun p s σ H Q I q => h.run p s σ H Q I (w σ H Q q)⟩
end
/-- the introduction of a reading over data -/
theorem canE.mk {K : PySem.W.Frag} {Y : KJ K} {t : DTE} {σ : St} {H : Hp} {Q0 : VK} {F : Hp} {M : Mp} {ρ : Rho} {Q : DK} (s : RelS K F σ ρ) (r : Rel Y F M H) (h : t ρ M Q)
    (k : ∀ v d F' M' H', Stp Y F M H F' M' H' → Rp K F' v d → Q d M' → Q0 v H') : canE Y t σ H Q0 := ⟨F, M, ρ, Q, s, r, h, k⟩

/-! ### names, constants -/
def dSlot (i : Nat) : DTE := fun ρ M Q => ∃ d, ρ[i]? = some (some d) ∧ Q d M
def dC (d : D) : DTE := fun _ M Q => Q d M
section
variable {X : Cx} {Y : KJ X.K} {pos : Pos}
theorem de_v (i : Nat) {x : Str} (hN : X.N[i]? = some x := by rfl) (hv : Vis X.env.scope x := by first | exact Or.inl rfl | exact Or.inr (Or.inl rfl) | exact Or.inr (Or.inr rfl)) (hd : (x == ("__debug__" : Str)) = false := by decide)
    (hcd : (x == ("__classdict__" : Str)) = false := by decide) : DE X Y (.Name x pos) (dSlot i) := by
  refine PE.weak (pe_var hN hv hd hcd) ?_
  rintro σ H Q0 ⟨F, M, ρ, Q, rs, r, ⟨d, e, q⟩, k⟩
  obtain ⟨v, e1, rp⟩ := rs.2 i d e
  exact ⟨v, e1, k v d F M H (Stp.refl r) rp q⟩
theorem de_const {e : Expr} {v : V} {d : D} (h : PE X e (tC v)) (r : ∀ F, Rp X.K F v d) : DE X Y e (dC d) := by
  refine PE.weak h ?_
  rintro σ H Q0 ⟨F, M, ρ, Q, rs, rl, q, k⟩
  exact k v d F M H (Stp.refl rl) (r F) q
theorem de_int {i j} : DE X Y (.Constant (.int i) j pos) (dC (.int i)) := de_const pe_int fun _ => .int i
theorem de_bl {b j} : DE X Y (.Constant (.bool b) j pos) (dC (.bl b)) := de_const pe_bl fun _ => .bl b
theorem de_non {j} : DE X Y (.Constant .none j pos) (dC .non) := de_const pe_non fun _ => .non
theorem de_str {x j} : DE X Y (.Constant (.str x) j pos) (dC (.str x)) := de_const pe_str fun _ => .str x
/-- a name of the module whose value never changes -/
structure Glob (K : PySem.W.Frag) (mg : Str → Option Value) (x : Str) (d : D) : Prop where
  ex : ∃ v u, mg x = some u ∧ RelV v u ∧ ∀ F, Rp K F v d
theorem de_g {x : Str} {d : D} (G : Glob X.K X.mg x d) (hg : Gl X x := by rfl) (hd : (x == ("__debug__" : Str)) = false := by decide) : DE X Y (.Name x pos) (dC d) := by
  obtain ⟨v, u, m, rv, rp⟩ := G.ex
  exact de_const (pe_glob hg m rv hd) rp

/-! ### lists of arguments, displays -/
def dNil : DTA := fun _ M Q => Q [] M
def dCons (t : DTE) (u : DTA) : DTA := fun ρ M Q => t ρ M fun d M1 => u ρ M1 fun ds M2 => Q (d :: ds) M2
theorem da_nil : DA X Y [] dNil := by
  refine PA.weak pa_nil ?_
  rintro σ H Q0 ⟨F, M, ρ, Q, rs, r, q, k⟩
  exact k [] [] F M H (Stp.refl r) .nil q
theorem da_cons {e : Expr} {es : List Expr} {t : DTE} {u : DTA} (ha : DE X Y e t) (hr : DA X Y es u) (hs : starEach (e :: es) X.env = (false, eval e X.env) :: starEach es X.env := by rfl) : DA X Y (e :: es) (dCons t u) := by
  refine PA.weak (pa_cons ha hr hs) ?_
  rintro σ H Q0 ⟨F, M, ρ, Q, rs, r, q, k⟩
  refine ⟨F, M, ρ, _, rs, r, q, fun v d F1 M1 H1 s1 rp q1 => ?_⟩
  refine ⟨F1, M1, ρ, _, rs.mono s1.same, s1.rel, q1, fun vs ds F2 M2 H2 s2 rp2 q2 => ?_⟩
  exact k _ _ F2 M2 H2 (s1.trans s2) (.cons (rp.mono s2.same) rp2) q2
/-- a new list: held fast (fz), or to be changed -/
def newL (fz : Bool) (ds : List D) (M : Mp) (Q : DK) : Prop := if fz = true then Q (.lst ds) M else ∀ a, M a = none → Q (.ref a) (mu M a (.lst ds))
theorem newL_ok {K : PySem.W.Frag} {Y : KJ K} {F : Hp} {M : Mp} {H : Hp} {fz : Bool} {xs : List V} {ds : List D} {Q : DK} {Q0 : VK} (R : Rel Y F M H) (rp : RpAll K F xs ds) (h : newL fz ds M Q)
    (k : ∀ v d F' M' H', Stp Y F M H F' M' H' → Rp K F' v d → Q d M' → Q0 v H') (p : Addr) (hp : H p = none) : Q0 (.ref p) (upd H p (.lst xs)) := by
  cases fz with
  | true =>
    have s1 := R.newF hp (.lst xs)
    exact k _ (.lst ds) _ M _ s1 (.lst upd_same (rp.mono s1.same)) h
  | false =>
    exact k _ (.ref p) F _ _ (R.newM hp (m := .lst ds) rp) (.ref p) (h p (R.mnone hp))
def dTup (t : DTA) : DTE := fun ρ M Q => t ρ M fun ds M1 => ds.length ≤ sizeLine ∧ Q (.tup ds) M1
def dLst (fz : Bool) (t : DTA) : DTE := fun ρ M Q => t ρ M fun ds M1 => ds.length ≤ sizeLine ∧ newL fz ds M1 Q
theorem newT_ok {K : PySem.W.Frag} {Y : KJ K} {F : Hp} {M : Mp} {H : Hp} {xs : List V} {ds : List D} {Q : DK} {Q0 : VK} (R : Rel Y F M H) (rp : RpAll K F xs ds) (h : Q (.tup ds) M)
    (k : ∀ v d F' M' H', Stp Y F M H F' M' H' → Rp K F' v d → Q d M' → Q0 v H') (p : Addr) (hp : H p = none) : Q0 (.ref p) (upd H p (.tup xs)) := by
  have s1 := R.newF hp (.tup xs)
  exact k _ (.tup ds) _ M _ s1 (.tup (.inl (.inl upd_same)) (rp.mono s1.same)) h
theorem de_tup {es : List Expr} {x1} {t : DTA} (h : DA X Y es t) : DE X Y (.Tuple es x1 pos) (dTup t) := by
  refine PE.weak (pe_tup h) ?_
  rintro σ H Q0 ⟨F, M, ρ, Q, rs, r, q, k⟩
  refine ⟨F, M, ρ, _, rs, r, q, fun vs ds F1 M1 H1 s1 rp ⟨hl, q1⟩ => ⟨by rw [rp.length]; exact hl, fun p hp => ?_⟩⟩
  exact newT_ok s1.rel rp q1 (fun v d F' M' H' s => k v d F' M' H' (s1.trans s)) p hp
theorem de_lst (fz : Bool) {es : List Expr} {t : DTA} (h : DA X Y es t) : DE X Y (.List es pos) (dLst fz t) := by
  refine PE.weak (pe_lst h) ?_
  rintro σ H Q0 ⟨F, M, ρ, Q, rs, r, q, k⟩
  refine ⟨F, M, ρ, _, rs, r, q, fun vs ds F1 M1 H1 s1 rp ⟨hl, q1⟩ => ⟨by rw [rp.length]; exact hl, fun p hp => ?_⟩⟩
  exact newL_ok s1.rel rp q1 (fun v d F' M' H' s => k v d F' M' H' (s1.trans s)) p hp
/-- a list that was changed is held fast here -/
def dHold (t : DTE) : DTE := fun ρ M Q => t ρ M fun d M1 => ∃ a ds, d = .ref a ∧ M1 a = some (.lst ds) ∧ Q (.lst ds) (md M1 a)
theorem de_hold {e : Expr} {t : DTE} (h : DE X Y e t) : DE X Y e (dHold t) := by
  refine PE.weak h ?_
  rintro σ H Q0 ⟨F, M, ρ, Q, rs, r, q, k⟩
  refine ⟨F, M, ρ, _, rs, r, q, fun v d F1 M1 H1 s1 rp ⟨a, ds, e, hm, q1⟩ => ?_⟩
  subst e
  cases rp
  obtain ⟨F2, s2, rp2⟩ := s1.rel.hold hm
  exact k _ _ F2 _ H1 (s1.trans s2) rp2 q1
end
end DL

/-! DL2: tests, statements, targets, loops, comprehensions, defs and calls over data. -/
namespace DL
open PySem PySem.Spec L2
open PyProof.Rows hiding St

/-! ### tests -/
def dB (t : DTE) : DTT := fun ρ M Q => t ρ M fun d M1 => ∃ b, d = .bl b ∧ Q b M1
section
variable {X : Cx} {Y : KJ X.K} {pos : Pos}
theorem canT_of_B {K : PySem.W.Frag} {Y : KJ K} {t : DTE} {σ : St} {H : Hp} {Q : Bool → Hp → Prop} (h : canT Y (dB t) σ H Q) : tB (canE Y t) σ H Q := by
  obtain ⟨F, M, ρ, Q', rs, r, q, k⟩ := h
  refine ⟨F, M, ρ, _, rs, r, q, fun v d F1 M1 H1 s1 rp ⟨b, e, q1⟩ => ?_⟩
  subst e
  cases rp
  exact ⟨b, rfl, k b F1 M1 H1 s1 q1⟩
theorem dt_val {e : Expr} {t : DTE} (h : DE X Y e t) (he : ∀ whole, isTrue e X.env whole = (do let v ← whole; standAt e.pos; holding [v] (truthy v)) := by intro _; rfl) : DT X Y e (dB t) :=
  PT.weak (pt_val h he) fun _ _ _ q => canT_of_B q
def dNotT (t : DTT) : DTT := fun ρ M Q => t ρ M fun b M1 => Q (!b) M1
def dAndT (t u : DTT) : DTT := fun ρ M Q => t ρ M fun b M1 => if b = true then u ρ M1 Q else Q false M1
def dOrT (t u : DTT) : DTT := fun ρ M Q => t ρ M fun b M1 => if b = true then Q true M1 else u ρ M1 Q
theorem dt_not {a : Expr} {t : DTT} (h : DT X Y a t) : DT X Y (.UnaryOp .Not a pos) (dNotT t) := by
  refine PT.weak (pt_not h) ?_
  rintro σ H Q0 ⟨F, M, ρ, Q, rs, r, q, k⟩
  exact ⟨F, M, ρ, _, rs, r, q, fun b F1 M1 H1 s1 q1 => k _ F1 M1 H1 s1 q1⟩
theorem can_and {K : PySem.W.Frag} {Y : KJ K} {t u : DTT} {σ : St} {H : Hp} {Q : Bool → Hp → Prop} (h : canT Y (dAndT t u) σ H Q) : tAnd (canT Y t) (canT Y u) σ H Q := by
  obtain ⟨F, M, ρ, Q', rs, r, q, k⟩ := h
  refine ⟨F, M, ρ, _, rs, r, q, fun b F1 M1 H1 s1 q1 => ?_⟩
  cases b with
  | true => exact ⟨F1, M1, ρ, Q', rs.mono s1.same, s1.rel, q1, fun b F2 M2 H2 s2 => k b F2 M2 H2 (s1.trans s2)⟩
  | false => exact k _ F1 M1 H1 s1 q1
theorem can_or {K : PySem.W.Frag} {Y : KJ K} {t u : DTT} {σ : St} {H : Hp} {Q : Bool → Hp → Prop} (h : canT Y (dOrT t u) σ H Q) : tOr (canT Y t) (canT Y u) σ H Q := by
  obtain ⟨F, M, ρ, Q', rs, r, q, k⟩ := h
  refine ⟨F, M, ρ, _, rs, r, q, fun b F1 M1 H1 s1 q1 => ?_⟩
  cases b with
  | false => exact ⟨F1, M1, ρ, Q', rs.mono s1.same, s1.rel, q1, fun b F2 M2 H2 s2 => k b F2 M2 H2 (s1.trans s2)⟩
  | true => exact k _ F1 M1 H1 s1 q1
theorem dw_and1 {a : Expr} {t : DTT} (h : DT X Y a t) : DW X Y (.BoolOp .And [a] pos) t := pw_and1 h
theorem dw_or1 {a : Expr} {t : DTT} (h : DT X Y a t) : DW X Y (.BoolOp .Or [a] pos) t := pw_or1 h
theorem dw_and {a b : Expr} {rest : List Expr} {t u : DTT} (h : DT X Y a t) (h2 : DW X Y (.BoolOp .And (b :: rest) pos) u) : DW X Y (.BoolOp .And (a :: b :: rest) pos) (dAndT t u) :=
  PW.weak (pw_and h h2) fun _ _ _ q => can_and q
theorem dw_or {a b : Expr} {rest : List Expr} {t u : DTT} (h : DT X Y a t) (h2 : DW X Y (.BoolOp .Or (b :: rest) pos) u) : DW X Y (.BoolOp .Or (a :: b :: rest) pos) (dOrT t u) :=
  PW.weak (pw_or h h2) fun _ _ _ q => can_or q
theorem dt_w {e : Expr} {t : DTT} (h : DW X Y e t) : DT X Y e t := h.pt

/-! ### and, or, not as values; x if t else y -/
def dAndV (t u : DTE) : DTE := fun ρ M Q => t ρ M fun d M1 => ∃ b, d = .bl b ∧ if b = true then u ρ M1 Q else Q (.bl false) M1
def dOrV (t u : DTE) : DTE := fun ρ M Q => t ρ M fun d M1 => ∃ b, d = .bl b ∧ if b = true then Q (.bl true) M1 else u ρ M1 Q
def dNotV (t : DTE) : DTE := fun ρ M Q => t ρ M fun d M1 => ∃ b, d = .bl b ∧ Q (.bl (!b)) M1
def dIf (c : DTT) (t u : DTE) : DTE := fun ρ M Q => c ρ M fun b M1 => if b = true then t ρ M1 Q else u ρ M1 Q
theorem de_one {op} {a : Expr} {t : DTE} (h : DE X Y a t) : DE X Y (.BoolOp op [a] pos) t := pe_one h
theorem de_and {a b : Expr} {rest : List Expr} {t u : DTE} (h : DE X Y a t) (h2 : DE X Y (.BoolOp .And (b :: rest) pos) u) : DE X Y (.BoolOp .And (a :: b :: rest) pos) (dAndV t u) := by
  refine PE.weak (pe_and h h2) ?_
  rintro σ H Q0 ⟨F, M, ρ, Q, rs, r, q, k⟩
  refine ⟨F, M, ρ, _, rs, r, q, fun v d F1 M1 H1 s1 rp ⟨b, e, q1⟩ => ?_⟩
  subst e
  cases rp
  refine ⟨b, rfl, ?_⟩
  cases b with
  | true => exact ⟨F1, M1, ρ, Q, rs.mono s1.same, s1.rel, q1, fun v d F2 M2 H2 s2 => k v d F2 M2 H2 (s1.trans s2)⟩
  | false => exact k _ _ F1 M1 H1 s1 (.bl false) q1
theorem de_or {a b : Expr} {rest : List Expr} {t u : DTE} (h : DE X Y a t) (h2 : DE X Y (.BoolOp .Or (b :: rest) pos) u) : DE X Y (.BoolOp .Or (a :: b :: rest) pos) (dOrV t u) := by
  refine PE.weak (pe_or h h2) ?_
  rintro σ H Q0 ⟨F, M, ρ, Q, rs, r, q, k⟩
  refine ⟨F, M, ρ, _, rs, r, q, fun v d F1 M1 H1 s1 rp ⟨b, e, q1⟩ => ?_⟩
  subst e
  cases rp
  refine ⟨b, rfl, ?_⟩
  cases b with
  | false => exact ⟨F1, M1, ρ, Q, rs.mono s1.same, s1.rel, q1, fun v d F2 M2 H2 s2 => k v d F2 M2 H2 (s1.trans s2)⟩
  | true => exact k _ _ F1 M1 H1 s1 (.bl true) q1
theorem de_not {a : Expr} {t : DTE} (h : DE X Y a t) : DE X Y (.UnaryOp .Not a pos) (dNotV t) := by
  refine PE.weak (pe_not h) ?_
  rintro σ H Q0 ⟨F, M, ρ, Q, rs, r, q, k⟩
  refine ⟨F, M, ρ, _, rs, r, q, fun v d F1 M1 H1 s1 rp ⟨b, e, q1⟩ => ?_⟩
  subst e
  cases rp
  exact ⟨b, rfl, k _ _ F1 M1 H1 s1 (.bl _) q1⟩
theorem de_if {c a b : Expr} {tc : DTT} {t u : DTE} (hc : DT X Y c tc) (ha : DE X Y a t) (hb : DE X Y b u) : DE X Y (.IfExp c a b pos) (dIf tc t u) := by
  refine PE.weak (pe_ifExp hc ha hb) ?_
  rintro σ H Q0 ⟨F, M, ρ, Q, rs, r, q, k⟩
  refine ⟨F, M, ρ, _, rs, r, q, fun b F1 M1 H1 s1 q1 => ?_⟩
  cases b with
  | true => exact ⟨F1, M1, ρ, Q, rs.mono s1.same, s1.rel, q1, fun v d F2 M2 H2 s2 => k v d F2 M2 H2 (s1.trans s2)⟩
  | false => exact ⟨F1, M1, ρ, Q, rs.mono s1.same, s1.rel, q1, fun v d F2 M2 H2 s2 => k v d F2 M2 H2 (s1.trans s2)⟩
end

/-! ### blocks and small statements -/
def dNext : DTS := fun D ρ M => D.nx ρ M
def dSeq (t u : DTS) : DTS := fun D ρ M => t { D with nx := u D } ρ M
def dBreak : DTS := fun D ρ M => D.bk ρ M
def dCont : DTS := fun D ρ M => D.ct ρ M
def dDrop (t : DTE) : DTS := fun D ρ M => t ρ M fun _ M1 => D.nx ρ M1
def dRet (t : DTE) : DTS := fun D ρ M => t ρ M D.rt
def dRetN : DTS := fun D _ M => D.rt .non M
def dIfS (c : DTT) (t u : DTS) : DTS := fun D ρ M => c ρ M fun b M1 => if b = true then t D ρ M1 else u D ρ M1
section
variable {X : Cx} {Y : KJ X.K} {pos : Pos}
theorem dss_nil : DSs X Y [] dNext := by
  refine PSs.weak pss_nil ?_
  rintro D0 σ H ⟨F, M, ρ, D, rs, r, q, k⟩
  exact k.nx σ ρ F M H (Stp.refl r) rs q
theorem dss_cons {st : Stmt} {rest : List Stmt} {t u : DTS} (h1 : DS X Y st t) (h2 : DSs X Y rest u) : DSs X Y (st :: rest) (dSeq t u) := by
  refine PSs.weak (pss_cons h1 h2) ?_
  rintro D0 σ H ⟨F, M, ρ, D, rs, r, q, k⟩
  refine ⟨F, M, ρ, _, rs, r, q, ⟨fun σ' ρ' F' M' H' s rs' q' => ?_, k.rt, k.bk, k.ct⟩⟩
  exact ⟨F', M', ρ', D, rs', s.rel, q', k.mono s⟩
theorem dss_one {st : Stmt} {t : DTS} (h1 : DS X Y st t) : DSs X Y [st] t := pss_one h1
theorem ds_pass : DS X Y (.Pass pos) dNext := by
  refine PS.weak ps_pass ?_
  rintro D0 σ H ⟨F, M, ρ, D, rs, r, q, k⟩
  exact k.nx σ ρ F M H (Stp.refl r) rs q
theorem ds_break : DS X Y (.Break pos) dBreak := by
  refine PS.weak ps_break ?_
  rintro D0 σ H ⟨F, M, ρ, D, rs, r, q, k⟩
  exact k.bk σ ρ F M H (Stp.refl r) rs q
theorem ds_continue : DS X Y (.Continue pos) dCont := by
  refine PS.weak ps_continue ?_
  rintro D0 σ H ⟨F, M, ρ, D, rs, r, q, k⟩
  exact k.ct σ ρ F M H (Stp.refl r) rs q
theorem ds_expr {e : Expr} {t : DTE} (he : DE X Y e t) (hs : swapsWith e none pos.line X.env = pure false := by rfl) : DS X Y (.Expr e pos) (dDrop t) := by
  refine PS.weak (ps_expr he hs) ?_
  rintro D0 σ H ⟨F, M, ρ, D, rs, r, q, k⟩
  exact ⟨F, M, ρ, _, rs, r, q, fun v d F1 M1 H1 s1 rp q1 => k.nx σ ρ F1 M1 H1 s1 (rs.mono s1.same) q1⟩
theorem ds_ret {e : Expr} {t : DTE} (he : DE X Y e t) : DS X Y (.Return (some e) pos) (dRet t) := by
  refine PS.weak (ps_ret he) ?_
  rintro D0 σ H ⟨F, M, ρ, D, rs, r, q, k⟩
  exact ⟨F, M, ρ, _, rs, r, q, fun v d F1 M1 H1 s1 rp q1 => k.rt v d F1 M1 H1 s1 rp q1⟩
theorem ds_retN : DS X Y (.Return none pos) dRetN := by
  refine PS.weak ps_retN ?_
  rintro D0 σ H ⟨F, M, ρ, D, rs, r, q, k⟩
  exact k.rt .non .non F M H (Stp.refl r) .non q
theorem ds_if {c : Expr} {a b : List Stmt} {tc : DTT} {t u : DTS} (hc : DT X Y c tc) (ha : DSs X Y a t) (hb : DSs X Y b u) : DS X Y (.If c a b pos) (dIfS tc t u) := by
  refine PS.weak (ps_if hc ha hb) ?_
  rintro D0 σ H ⟨F, M, ρ, D, rs, r, q, k⟩
  refine ⟨F, M, ρ, _, rs, r, q, fun b F1 M1 H1 s1 q1 => ?_⟩
  cases b with
  | true => exact ⟨F1, M1, ρ, D, rs.mono s1.same, s1.rel, q1, k.mono s1⟩
  | false => exact ⟨F1, M1, ρ, D, rs.mono s1.same, s1.rel, q1, k.mono s1⟩
end

/-! ### targets -/
abbrev DTG := D → Rho → Mp → (Rho → Mp → Prop) → Prop
abbrev DTGs := List D → Rho → Mp → (Rho → Mp → Prop) → Prop
/-- off the places ws the slots are as they were -/
def Off (ws : List Nat) (σ σ' : St) : Prop := σ'.length = σ.length ∧ ∀ j : Nat, j ∉ ws → σ'[j]? = σ[j]?
theorem Off.refl (ws : List Nat) (σ : St) : Off ws σ σ := ⟨rfl, fun _ _ => rfl⟩
theorem Off.trans {ws : List Nat} {σ σ1 σ2 : St} (a : Off ws σ σ1) (b : Off ws σ1 σ2) : Off ws σ σ2 := ⟨b.1.trans a.1, fun j h => (b.2 j h).trans (a.2 j h)⟩
theorem Off.more {ws ws' : List Nat} {σ σ' : St} (a : Off ws σ σ') (h : ∀ i ∈ ws, i ∈ ws') : Off ws' σ σ' := ⟨a.1, fun j q => a.2 j fun z => q (h j z)⟩
theorem Off.set (σ : St) (i : Nat) (v : Option V) : Off [i] σ (σ.set i v) := ⟨List.length_set, fun j h => List.getElem?_set_ne (fun e => h (by simp [e]))⟩
theorem wipe_get {σ : St} : ∀ {vs : List Nat} {j : Nat}, (L2.wipe σ vs)[j]? = if j ∈ vs ∧ j < σ.length then some none else σ[j]?
  | [], j => by simp [L2.wipe]
  | v :: vs, j => by
    unfold L2.wipe
    by_cases e : v = j
    · subst e
      by_cases h : v < σ.length
      · rw [List.getElem?_set_self (by rw [L2.wipe_length]; exact h)]; simp [h]
      · rw [List.getElem?_eq_none (by rw [List.length_set, L2.wipe_length]; omega)]; simp [h]
    · rw [List.getElem?_set_ne e, wipe_get (vs := vs)]
      have : (j ∈ v :: vs) ↔ j ∈ vs := by simp [List.mem_cons, Ne.symm e]
      simp only [this]
theorem Off.wipe {ws : List Nat} {σ σ' : St} (a : Off ws σ σ') : L2.wipe σ' ws = L2.wipe σ ws := by
  apply List.ext_getElem?
  intro j
  rw [wipe_get, wipe_get, a.1]
  by_cases h : j ∈ ws
  · by_cases hl : j < σ.length
    · simp [h, hl]
    · rw [if_neg (by simp [hl]), if_neg (by simp [hl]), List.getElem?_eq_none (by rw [a.1]; omega), List.getElem?_eq_none (by omega)]
  · rw [if_neg (by simp [h]), if_neg (by simp [h])]
    exact a.2 j h
theorem wipe_idem {σ : St} {ws : List Nat} : L2.wipe (L2.wipe σ ws) ws = L2.wipe σ ws := by
  apply List.ext_getElem?
  intro j
  rw [wipe_get, wipe_get, L2.wipe_length]
  by_cases h : j ∈ ws ∧ j < σ.length
  · rw [if_pos h, if_pos h]
  · rw [if_neg h, if_neg h]
def canG {K : PySem.W.Frag} (Y : KJ K) (g : DTG) (ws : List Nat) : TG := fun v σ H Q0 => ∃ F M ρ d Q, Rp K F v d ∧ RelS K F σ ρ ∧ Rel Y F M H ∧ g d ρ M Q ∧
  ∀ σ' ρ' F' M' H', Stp Y F M H F' M' H' → RelS K F' σ' ρ' → Off ws σ σ' → Q ρ' M' → Q0 σ' H'
def canGs {K : PySem.W.Frag} (Y : KJ K) (g : DTGs) (ws : List Nat) : TGs := fun vs σ H Q0 => ∃ F M ρ ds Q, RpAll K F vs ds ∧ RelS K F σ ρ ∧ Rel Y F M H ∧ g ds ρ M Q ∧
  ∀ σ' ρ' F' M' H', Stp Y F M H F' M' H' → RelS K F' σ' ρ' → Off ws σ σ' → Q ρ' M' → Q0 σ' H'
abbrev DG (X : Cx) (Y : KJ X.K) (e : Expr) (g : DTG) (ws : List Nat) : Prop := PG X e (canG Y g ws)
abbrev DGs (X : Cx) (Y : KJ X.K) (es : List Expr) (g : DTGs) (ws : List Nat) : Prop := PGs X es (canGs Y g ws)
section
variable {X : Cx} {Y : KJ X.K} {pos : Pos}
theorem PG.weak {e : Expr} {t u : TG} (h : PG X e t) (w : ∀ v σ H Q, u v σ H Q → t v σ H Q) : PG X e u := ⟨fun p s σ H v z Q I r q => h.run p s σ H v z Q I r (w v σ H Q q)⟩
theorem PGs.weak {es : List Expr} {t u : TGs} (h : PGs X es t) (w : ∀ v σ H Q, u v σ H Q → t v σ H Q) : PGs X es u := ⟨fun p s σ H v z Q I r q => h.run p s σ H v z Q I r (w v σ H Q q)⟩
def dgName (i : Nat) : DTG := fun d ρ M Q => Q (ρ.set i (some d)) M
theorem dg_name {i : Nat} {x : Str} (hN : X.N.Nodup) (hi : X.N[i]? = some x) (hx : Loc X.env.scope x) (hf : X.fn x = true ∨ X.env.scope.names.lookup x = some .local := by first | exact .inl rfl | exact .inr rfl | assumption) : DG X Y (.Name x pos) (dgName i) [i] := by
  refine PG.weak (pg_name hN hi hx hf) ?_
  rintro v σ H Q0 ⟨F, M, ρ, d, Q, rp, rs, r, q, k⟩
  exact k _ _ F M H (Stp.refl r) (rs.set rp i) (Off.set σ i _) q
def dgNil : DTGs := fun ds ρ M Q => ds = [] ∧ Q ρ M
def dgCons (t : DTG) (u : DTGs) : DTGs := fun ds ρ M Q => ∃ d r, ds = d :: r ∧ t d ρ M fun ρ1 M1 => u r ρ1 M1 Q
theorem dgs_nil : DGs X Y [] dgNil [] := by
  refine PGs.weak pgs_nil ?_
  rintro vs σ H Q0 ⟨F, M, ρ, ds, Q, rp, rs, r, ⟨e, q⟩, k⟩
  subst e
  cases rp
  exact ⟨rfl, k _ _ F M H (Stp.refl r) rs (Off.refl _ _) q⟩
theorem dgs_cons {e : Expr} {es : List Expr} {t : DTG} {u : DTGs} {w1 w2 : List Nat} (h1 : DG X Y e t w1) (h2 : DGs X Y es u w2)
    (hs : (assignEach (e :: es) X.env).map (·.2) = assign e X.env :: (assignEach es X.env).map (·.2) := by rfl) : DGs X Y (e :: es) (dgCons t u) (w1 ++ w2) := by
  refine PGs.weak (pgs_cons h1 h2 hs) ?_
  rintro vs σ H Q0 ⟨F, M, ρ, ds, Q, rp, rs, r, ⟨d, rr, e, q⟩, k⟩
  subst e
  cases rp with
  | cons rh rt =>
    refine ⟨_, _, rfl, F, M, ρ, d, _, rh, rs, r, q, fun σ1 ρ1 F1 M1 H1 s1 rs1 o1 q1 => ?_⟩
    exact ⟨F1, M1, ρ1, rr, Q, rt.mono s1.same, rs1, s1.rel, q1, fun σ2 ρ2 F2 M2 H2 s2 rs2 o2 => k σ2 ρ2 F2 M2 H2 (s1.trans s2) rs2 ((o1.more fun i h => List.mem_append_left _ h).trans (o2.more fun i h => List.mem_append_right _ h))⟩
def dgTup (n : Nat) (t : DTGs) : DTG := fun d ρ M Q => ∃ ds, d = .tup ds ∧ ds.length = n ∧ t ds ρ M Q
theorem dg_tup {es : List Expr} {k : Nat} {t : DTGs} {n : Nat} {ws : List Nat} (hc : X.calm = true) (h : DGs X Y es t ws)
    (hn : (assignEach es X.env).length = n := by rfl) (hst : (assignEach es X.env).findIdx? (·.1) = none := by rfl) : DG X Y (.Tuple es k pos) (dgTup n t) ws := by
  refine PG.weak (pg_tup hc h hn hst) ?_
  rintro v σ H Q0 ⟨F, M, ρ, d, Q, rp, rs, r, ⟨ds, e, hl, q⟩, k⟩
  subst e
  cases rp with
  | tup sq ra =>
    have sq' := Same.tseq r.sub sq
    exact ⟨_, _, rfl, sq', by rw [ra.length]; exact hl, F, M, ρ, ds, Q, ra, rs, r, q, k⟩
/-- o[i] = v -/
abbrev DTSet := D → D → D → Mp → (Mp → Prop) → Prop
def canSet {K : PySem.W.Frag} (Y : KJ K) (t : DTSet) : TSet := fun o i v H Q0 => ∃ F M od id vd Q, Rp K F o od ∧ Rp K F i id ∧ Rp K F v vd ∧ Rel Y F M H ∧ t od id vd M Q ∧
  ∀ F' M' H', Stp Y F M H F' M' H' → Q M' → Q0 H'
theorem PSet.weak {t u : TSet} (h : PSet X t) (w : ∀ o i v H Q, u o i v H Q → t o i v H Q) : PSet X u := fun p s σ H o i v ov iv z Q I r1 r2 r3 q => h p s σ H o i v ov iv z Q I r1 r2 r3 (w o i v H Q q)
def dgSub (to ti : DTE) (t : DTSet) : DTG := fun d ρ M Q => to ρ M fun o M1 => ti ρ M1 fun i M2 => t o i d M2 fun M3 => Q ρ M3
theorem dg_sub {o i : Expr} {to ti : DTE} {t : DTSet} (ho : DE X Y o to) (hi : DE X Y i ti) (hs : PSet X (canSet Y t))
    (ha : ∀ v, assign (.Subscript o i pos) X.env v = (do
      let ov ← holding [v] (eval o X.env)
      let iv ← holding [v, ov] (eval i X.env)
      standAt pos
      holding [v, ov, iv] (setItem ov iv v)
      release [v, ov, iv] []) := by intro _; rfl) : DG X Y (.Subscript o i pos) (dgSub to ti t) [] := by
  refine PG.weak (pg_sub ho hi hs ha) ?_
  rintro v σ H Q0 ⟨F, M, ρ, d, Q, rp, rs, r, q, k⟩
  refine ⟨F, M, ρ, _, rs, r, q, fun ov od F1 M1 H1 s1 rp1 q1 => ?_⟩
  refine ⟨F1, M1, ρ, _, rs.mono s1.same, s1.rel, q1, fun iv id F2 M2 H2 s2 rp2 q2 => ?_⟩
  have s12 := s1.trans s2
  exact ⟨F2, M2, od, id, d, _, rp1.mono s2.same, rp2, rp.mono s12.same, s2.rel, q2, fun F3 M3 H3 s3 q3 => k σ ρ F3 M3 H3 (s12.trans s3) (rs.mono (s12.trans s3).same) (Off.refl _ _) q3⟩
def dAsg (t : DTE) (g : DTG) : DTS := fun D ρ M => t ρ M fun d M1 => g d ρ M1 D.nx
theorem can_asg {K : PySem.W.Frag} {Y : KJ K} {t : DTE} {g : DTG} {ws : List Nat} {D0 : Ends} {σ : St} {H : Hp} (h : canS Y (dAsg t g) D0 σ H) : tAsg (canE Y t) (canG Y g ws) D0 σ H := by
  obtain ⟨F, M, ρ, D, rs, r, q, k⟩ := h
  refine ⟨F, M, ρ, _, rs, r, q, fun v d F1 M1 H1 s1 rp q1 => ?_⟩
  exact ⟨F1, M1, ρ, d, D.nx, rp, rs.mono s1.same, s1.rel, q1, fun σ2 ρ2 F2 M2 H2 s2 rs2 _ q2 => k.nx σ2 ρ2 F2 M2 H2 (s1.trans s2) rs2 q2⟩
theorem ds_asg {tg e : Expr} {t : DTE} {g : DTG} {ws : List Nat} (he : DE X Y e t) (hg : DG X Y tg g ws) (hs : swapsWithSole [tg] e pos.line X.env = pure false := by rfl) (hw : swappedStores [tg] e X.env = pure none := by rfl)
    (h1 : (assignEach [tg] X.env).map (·.2) = [assign tg X.env] := by rfl) : DS X Y (.Assign [tg] e pos) (dAsg t g) :=
  PS.weak (ps_asg he hg hs hw h1) fun _ _ _ q => can_asg q
theorem ds_set {i : Nat} {x : Str} {e : Expr} {t : DTE} {pos' : Pos} (hN : X.N.Nodup) (hi : X.N[i]? = some x) (hx : Loc X.env.scope x) (he : DE X Y e t) (hs : swapsWith e (some (.Name x pos')) pos.line X.env = pure false := by rfl) (hf : X.fn x = true ∨ X.env.scope.names.lookup x = some .local := by first | exact .inl rfl | exact .inr rfl | assumption) :
    DS X Y (.Assign [.Name x pos'] e pos) (dAsg t (dgName i)) := by
  refine PS.weak (ps_set hN hi hx he hs hf) ?_
  rintro D0 σ H ⟨F, M, ρ, D, rs, r, q, k⟩
  refine ⟨F, M, ρ, _, rs, r, q, fun v d F1 M1 H1 s1 rp q1 => ?_⟩
  exact k.nx _ _ F1 M1 H1 s1 ((rs.mono s1.same).set rp i) q1
def dPar (i j : Nat) (t : DTA) : DTS := fun D ρ M => t ρ M fun ds M1 => ∃ d e, ds = [d, e] ∧ D.nx ((ρ.set i (some d)).set j (some e)) M1
theorem ds_par {i j : Nat} {x y : Str} {a b : Expr} {t : DTA} {px py pt : Pos} {kt k2 pt2} (hc : X.calm = true) (hN : X.N.Nodup) (hi : X.N[i]? = some x) (hj : X.N[j]? = some y) (hij : i ≠ j)
    (hx : X.env.scope.names.lookup x = some .local) (hy : X.env.scope.names.lookup y = some .local) (ha : DA X Y [a, b] t)
    (hw : swappedStores [.Tuple [.Name x px, .Name y py] kt pt] (.Tuple [a, b] k2 pt2) X.env = pure (some [x, y]) := by rfl) : DS X Y (.Assign [.Tuple [.Name x px, .Name y py] kt pt] (.Tuple [a, b] k2 pt2) pos) (dPar i j t) := by
  refine PS.weak (ps_par hc hN hi hj hij hx hy ha hw) ?_
  rintro D0 σ H ⟨F, M, ρ, D, rs, r, q, k⟩
  refine ⟨F, M, ρ, _, rs, r, q, fun vs ds F1 M1 H1 s1 rp ⟨d, e, he, q1⟩ => ?_⟩
  subst he
  cases rp with
  | cons r1 rt =>
    cases rt with
    | cons r2 rt2 =>
      cases rt2
      exact ⟨_, _, rfl, k.nx _ _ F1 M1 H1 s1 (((rs.mono s1.same).set r1 i).set r2 j) q1⟩
end

/-! ### while -/
def dWhile (c : DTT) (tb : DTS) : DTS := fun D ρ M => ∃ W : Nat → Rho → Mp → Prop, (∃ m, W m ρ M) ∧ ∀ m ρ M, W m ρ M →
  c ρ M fun b M1 => if b = true then ∃ N : Rho → Mp → Prop, (∀ ρ' M', N ρ' M' → ∃ m', m' < m ∧ W m' ρ' M') ∧ tb { D with nx := N, ct := N, bk := D.nx } ρ M1 else D.nx ρ M1
section
variable {X : Cx} {Y : KJ X.K} {pos : Pos}
theorem ds_while {c : Expr} {body : List Stmt} {tc : DTT} {tb : DTS} (hp : PassesOwn (model X.prog X.w) X.A X.env X.xe) (hc : DT X Y c tc) (hb : DSs X Y body tb) : DS X Y (.While c body [] pos) (dWhile tc tb) := by
  refine PS.weak (ps_while hp hc hb) ?_
  rintro D0 σ H ⟨F, M, ρ, D, rs, r, ⟨W, ⟨m0, w0⟩, turn⟩, k⟩
  refine ⟨fun m σ' H' => ∃ F1 M1 ρ1, Stp Y F M H F1 M1 H' ∧ RelS X.K F1 σ' ρ1 ∧ W m ρ1 M1, ⟨m0, F, M, ρ, Stp.refl r, rs, w0⟩, ?_⟩
  rintro m σ1 H1 ⟨F1, M1, ρ1, s1, rs1, w1⟩
  refine ⟨F1, M1, ρ1, _, rs1, s1.rel, turn m ρ1 M1 w1, fun b F2 M2 H2 s2 q2 => ?_⟩
  have s12 := s1.trans s2
  cases b with
  | false => exact k.nx σ1 ρ1 F2 M2 H2 s12 (rs1.mono s2.same) q2
  | true =>
    obtain ⟨N, hN, q2⟩ := q2
    refine iteT ?_
    refine ⟨fun σ' H' => ∃ m', m' < m ∧ ∃ F1 M1 ρ1, Stp Y F M H F1 M1 H' ∧ RelS X.K F1 σ' ρ1 ∧ W m' ρ1 M1, fun σ' H' h => h, ?_⟩
    refine ⟨F2, M2, ρ1, _, rs1.mono s2.same, s2.rel, q2, ⟨fun σ' ρ' F' M' H' s rs' n => ?_, fun v d F' M' H' s => k.rt v d F' M' H' (s12.trans s), fun σ' ρ' F' M' H' s => k.nx σ' ρ' F' M' H' (s12.trans s), fun σ' ρ' F' M' H' s rs' n => ?_⟩⟩
    all_goals
      obtain ⟨m', hm, w'⟩ := hN ρ' M' n
      exact ⟨m', hm, F', M', ρ', s12.trans s, rs', w'⟩
end

/-! ### what is walked -/
structure JW {K : PySem.W.Frag} (Y : KJ K) (F : Hp) (J : It) (items : List D) (G : Mp → Prop) : Prop where
  run : ∀ F1 M1 H1, Same F F1 → Rel Y F1 M1 H1 → G M1 → J.stop items.length H1 ∧ ∀ (i : Nat) (d : D), items[i]? = some d → J.go i H1 ∧ ∀ x H2, J.yld i H1 x H2 → ∃ F2, Stp Y F1 M1 H1 F2 M1 H2 ∧ Rp K F2 x d
abbrev DTI := Rho → Mp → (List D → (Mp → Prop) → Mp → Prop) → Prop
def canI {K : PySem.W.Frag} (Y : KJ K) (wi : DTI) : TI := fun σ H R0 => ∃ F M ρ R, RelS K F σ ρ ∧ Rel Y F M H ∧ wi ρ M R ∧
  ∀ J items G F' M' H', Stp Y F M H F' M' H' → JW Y F' J items G → R items G M' → R0 J H'
abbrev DI (X : Cx) (Y : KJ X.K) (tg iter : Expr) (wi : DTI) : Prop := PI X tg iter (canI Y wi)
section
variable {X : Cx} {Y : KJ X.K} {pos : Pos}
theorem PI.weak {tg e : Expr} {t u : TI} (h : PI X tg e t) (w : ∀ σ H R, u σ H R → t σ H R) : PI X tg e u := ⟨fun p s σ H R I q => h.run p s σ H R I (w σ H R q)⟩
/-- a for over the items -/
def forW (g : DTG) (tb : DTS) (D : DEnds) (G : Mp → Prop) : List DL.D → Rho → Mp → Prop
  | [], ρ, M => G M ∧ D.nx ρ M
  | x :: xs, ρ, M => G M ∧ g x ρ M fun ρ2 M2 => tb { D with nx := forW g tb D G xs, ct := forW g tb D G xs, bk := D.nx } ρ2 M2
def dFor (wi : DTI) (g : DTG) (tb : DTS) : DTS := fun D ρ M => wi ρ M fun items G M1 => forW g tb D G items ρ M1
theorem ds_for {tg iter : Expr} {body : List Stmt} {wi : DTI} {g : DTG} {ws : List Nat} {tb : DTS} (hp : PassesOwn (model X.prog X.w) X.A X.env X.xe) (hc : X.calm = true) (hi : DI X Y tg iter wi) (hg : DG X Y tg g ws) (hb : DSs X Y body tb)
    (hs : ∀ x, foldedSetIterable iter X.env x = pure x := by intro _; rfl) : DS X Y (.For tg iter body [] pos) (dFor wi g tb) := by
  refine PS.weak (ps_for hp hc hi hg hb hs) ?_
  rintro D0 σ H ⟨F, M, ρ, D, rs, r, q, k⟩
  refine ⟨F, M, ρ, _, rs, r, q, fun J items G F1 M1 H1 s1 jw q1 => ?_⟩
  refine ⟨fun i m σ' H' => m = items.length - i ∧ i ≤ items.length ∧ ∃ F2 M2 ρ2, Stp Y F1 M1 H1 F2 M2 H' ∧ RelS X.K F2 σ' ρ2 ∧ forW g tb D G (items.drop i) ρ2 M2,
    ⟨items.length, by simp, Nat.zero_le _, F1, M1, ρ, Stp.refl s1.rel, rs.mono s1.same, q1⟩, ?_⟩
  rintro i m σ' H' ⟨rfl, hi, F2, M2, ρ2, s2, rs2, q2⟩
  by_cases hlt : i < items.length
  · rw [List.drop_eq_getElem_cons hlt] at q2
    obtain ⟨g2, q2⟩ := q2
    have jj := (jw.run F2 M2 H' s2.same s2.rel g2).2 i items[i] (List.getElem?_eq_getElem hlt)
    refine .inr ⟨jj.1, fun σ3 H3 => ∃ m', m' < items.length - i ∧ (m' = items.length - (i + 1) ∧ i + 1 ≤ items.length ∧ ∃ F2 M2 ρ2, Stp Y F1 M1 H1 F2 M2 H3 ∧ RelS X.K F2 σ3 ρ2 ∧ forW g tb D G (items.drop (i + 1)) ρ2 M2), fun σ3 H3 h => h, fun x H3 y => ?_⟩
    obtain ⟨F3, s3, rp⟩ := jj.2 x H3 y
    have s23 := s2.trans s3
    refine ⟨F3, M2, ρ2, items[i], _, rp, rs2.mono s3.same, s3.rel, q2, fun σ4 ρ4 F4 M4 H4 s4 rs4 _ q4 => ?_⟩
    have s24 := s23.trans s4
    refine ⟨F4, M4, ρ4, _, rs4, s4.rel, q4, ⟨fun σ5 ρ5 F5 M5 H5 s5 rs5 n => ?_, fun v d F' M' H' s => k.rt v d F' M' H' ((s1.trans s24).trans s), fun a b F' M' H' s => k.nx a b F' M' H' ((s1.trans s24).trans s), fun σ5 ρ5 F5 M5 H5 s5 rs5 n => ?_⟩⟩
    all_goals exact ⟨items.length - (i + 1), by omega, rfl, hlt, F5, M5, ρ5, s24.trans s5, rs5, n⟩
  · have e : i = items.length := by omega
    subst e
    rw [List.drop_length] at q2
    obtain ⟨g2, q2⟩ := q2
    exact .inl ⟨(jw.run F2 M2 H' s2.same s2.rel g2).1, k.nx σ' ρ2 F2 M2 H' (s1.trans s2) rs2 q2⟩

/-! ### list comprehensions -/
def dYes : DTT := fun _ M Q => Q true M
abbrev DTs (X : Cx) (Y : KJ X.K) (ifs : List Expr) (t : DTT) : Prop := PTs X ifs (canT Y t)
theorem dts_nil : DTs X Y [] dYes := by
  refine PTs.weak pts_nil ?_
  rintro σ H Q0 ⟨F, M, ρ, Q, rs, r, q, k⟩
  exact k true F M H (Stp.refl r) q
theorem dts_one {c : Expr} {t : DTT} (h : DT X Y c t) : DTs X Y [c] t := pts_one h
def lcW (g : DTG) (tt : DTT) (te : DTE) (G : Mp → Prop) (ρ : Rho) (k : List DL.D → Mp → Prop) : List DL.D → List DL.D → Mp → Prop
  | [], acc, M => G M ∧ k acc M
  | x :: xs, acc, M => G M ∧ g x ρ M fun ρ2 M2 => tt ρ2 M2 fun b M3 => if b = true then te ρ2 M3 fun d M4 => acc.length < sizeLine ∧ lcW g tt te G ρ k xs (acc ++ [d]) M4 else lcW g tt te G ρ k xs acc M3
def dLc (fz : Bool) (wi : DTI) (g : DTG) (tt : DTT) (te : DTE) (vs : List Nat) : DTE := fun ρ M Q => wi ρ M fun items G M1 => lcW g tt te G (dwipe ρ vs) (fun ds M2 => newL fz ds M2 Q) items [] M1
theorem can_lc {K : PySem.W.Frag} {Y : KJ K} {fz : Bool} {wi : DTI} {g : DTG} {ws : List Nat} {tt : DTT} {te : DTE} {vs : List Nat} {σ : St} {H : Hp} {Q0 : VK} (hv : ∀ i ∈ ws, i ∈ vs) (h : canE Y (dLc fz wi g tt te vs) σ H Q0) :
    tLc (canI Y wi) (canG Y g ws) (canT Y tt) (canE Y te) vs σ H Q0 := by
  obtain ⟨F, M, ρ, Q, rs, r, q, k⟩ := h
  refine ⟨F, M, ρ, _, rs, r, q, fun J items G F1 M1 H1 s1 jw q1 => ?_⟩
  intro D hD
  have fD : F1 D = none := s1.rel.fnone hD
  have mD : M1 D = none := s1.rel.mnone hD
  -- the new list stands beside what is told
  let Pv : Nat → Hp → Prop := fun i H' => i ≤ items.length ∧ ∃ F2 M2 acc xs, Stp Y F1 M1 H1 F2 M2 H' ∧ F2 D = none ∧ M2 D = none ∧ H' D = some (.lst xs) ∧ RpAll K F2 xs acc ∧ lcW g tt te G (dwipe ρ vs) (fun ds M2 => newL fz ds M2 Q) (items.drop i) acc M2
  have s0 : Stp Y F1 M1 H1 F1 M1 (upd H1 D (.lst [])) := by
    refine Stp.of s1.rel ⟨Same.refl F1, ⟨fun b u z => ?_, fun a m z => ?_, s1.rel.r.nt⟩, fun a o h f m _ => ?_, tabs_new hD _⟩
    · rw [upd_ne (ne_of_none (s1.rel.sub _ _ z) hD)]; exact s1.rel.sub _ _ z
    · obtain ⟨f, o, e, rr⟩ := s1.rel.mt a m z
      exact ⟨f, o, by rw [upd_ne (ne_of_none e hD)]; exact e, rr⟩
    · rw [upd_ne (ne_of_none h hD)]; exact ⟨h, f, m⟩
  refine ⟨fun i m H' => m = items.length - i ∧ Pv i H', ⟨items.length, by simp, Nat.zero_le _, F1, M1, [], [], s0, fD, mD, upd_same, .nil, q1⟩, ?_⟩
  rintro i m H2 ⟨rfl, hi, F2, M2, acc, xs, s2, f2, m2, h2, ra, q2⟩
  by_cases hlt : i < items.length
  · rw [List.drop_eq_getElem_cons hlt] at q2
    obtain ⟨g2, q2⟩ := q2
    have jj := (jw.run F2 M2 H2 s2.same s2.rel g2).2 i items[i] (List.getElem?_eq_getElem hlt)
    refine .inr ⟨jj.1, fun H3 => ∃ m', m' < items.length - i ∧ (m' = items.length - (i + 1) ∧ Pv (i + 1) H3), fun H3 h => h, fun x H3 y => ?_⟩
    obtain ⟨F3, s3, rp⟩ := jj.2 x H3 y
    obtain ⟨h3, f3, m3⟩ := s3.fr D _ h2 f2 m2 (fun _ z => nomatch z)
    have s23 := s2.trans s3
    refine ⟨F3, M2, dwipe ρ vs, items[i], _, rp, ((rs.mono s1.same).mono s23.same).wipe vs, s3.rel, q2, fun σ4 ρ4 F4 M4 H4 s4 rs4 o4 q4 => ?_⟩
    obtain ⟨h4, f4, m4⟩ := s4.fr D _ h3 f3 m3 (fun _ z => nomatch z)
    have s24 := s23.trans s4
    refine ⟨(o4.more hv).wipe.trans wipe_idem, F4, M4, ρ4, _, rs4, s4.rel, q4, fun b F5 M5 H5 s5 q5 => ?_⟩
    obtain ⟨h5, f5, m5⟩ := s5.fr D _ h4 f4 m4 (fun _ z => nomatch z)
    have s25 := s24.trans s5
    cases b with
    | false =>
      refine iteF ?_
      exact ⟨items.length - (i + 1), by omega, rfl, hlt, F5, M5, acc, xs, s25, f5, m5, h5, (((ra.mono s3.same).mono s4.same).mono s5.same), q5⟩
    | true =>
      refine iteT ?_
      refine ⟨F5, M5, ρ4, _, rs4.mono s5.same, s5.rel, q5, fun v d F6 M6 H6 s6 rp6 ⟨hl, q6⟩ => ?_⟩
      obtain ⟨h6, f6, m6⟩ := s6.fr D _ h5 f5 m5 (fun _ z => nomatch z)
      have s26 := s25.trans s6
      have ra6 : RpAll K F6 (xs ++ [v]) (acc ++ [d]) := (((((ra.mono s3.same).mono s4.same).mono s5.same).mono s6.same)).append (.cons rp6 .nil)
      refine ⟨xs, h6, by rw [ra.length]; exact hl, items.length - (i + 1), by omega, rfl, hlt, F6, M6, acc ++ [d], xs ++ [v], ?_, f6, m6, upd_same, ra6, q6⟩
      refine Stp.of s1.rel ⟨s26.same, ⟨fun b u z => ?_, fun a m z => ?_, s6.rel.r.nt⟩, fun a o h f m n => ?_, fun t => tabs_lst h6 (s26.s.tab t)⟩
      · rw [upd_ne (ne_of_none z f6)]; exact s6.rel.sub _ _ z
      · obtain ⟨f, o, e, rr⟩ := s6.rel.mt a m z
        have ne : a ≠ D := fun e => by subst e; rw [m6] at z; cases z
        exact ⟨f, o, by rw [upd_ne ne]; exact e, rr⟩
      · obtain ⟨h', f', m'⟩ := s26.fr a o h f m n
        rw [upd_ne (ne_of_none h hD)]; exact ⟨h', f', m'⟩
  · have e : i = items.length := by omega
    subst e
    rw [List.drop_length] at q2
    obtain ⟨g2, q2⟩ := q2
    refine .inl ⟨(jw.run F2 M2 H2 s2.same s2.rel g2).1, ?_⟩
    have sn : Same F2 (upd F2 D (.lst xs)) := same_new f2
    cases fz with
    | true =>
      refine k (.ref D) (.lst acc) (upd F2 D (.lst xs)) M2 H2 (s1.trans (Stp.of s1.rel ⟨s2.same.trans sn, ⟨fun b u z => ?_, fun a m z => ?_, fun a ps z => ?_⟩, fun a o h f m n => ?_, s2.s.tab⟩)) (.lst upd_same (ra.mono sn)) q2
      · by_cases e : b = D
        · subst e; rw [upd_same] at z; cases z; exact h2
        · rw [upd_ne e] at z; exact s2.rel.sub _ _ z
      · obtain ⟨f, o, e, rr⟩ := s2.rel.mt a m z
        have ne : a ≠ D := fun e => by subst e; rw [m2] at z; cases z
        exact ⟨by rw [upd_ne ne]; exact f, o, e, rr.mono sn⟩
      · by_cases e : a = D
        · subst e; rw [upd_same] at z; cases z
        · rw [upd_ne e] at z; exact s2.rel.r.nt a ps z
      · obtain ⟨h', f', m'⟩ := s2.fr a o h f m n
        exact ⟨h', by rw [upd_ne (ne_of_none h hD)]; exact f', m'⟩
    | false =>
      refine k (.ref D) (.ref D) F2 (mu M2 D (.lst acc)) H2 (s1.trans (Stp.of s1.rel ⟨s2.same, ⟨s2.rel.sub, fun a m z => ?_, s2.rel.r.nt⟩, fun a o h f m n => ?_, s2.s.tab⟩)) (.ref D) (q2 D m2)
      · by_cases e : a = D
        · subst e; rw [mu_same] at z; cases z; exact ⟨f2, _, h2, ra⟩
        · rw [mu_ne e] at z; exact s2.rel.mt a m z
      · obtain ⟨h', f', m'⟩ := s2.fr a o h f m n
        exact ⟨h', f', by rw [mu_ne (ne_of_none h hD)]; exact m'⟩
section
variable {X : Cx} {Y : KJ X.K} {pos : Pos}
theorem de_lc (fz : Bool) {elt tg iter : Expr} {ifs : List Expr} {scope : Scope} {own : List (Str × Nat)} {wi : DTI} {g : DTG} {ws : List Nat} {tt : DTT} {te : DTE} (hc : X.calm = true) (hN : X.N.Nodup) (hi : DI X Y tg iter wi) (ok : BlkOk X.N X.env.scope scope own) (hv : ∀ i ∈ ws, i ∈ own.map (·.2))
    (hg : ∀ (s : Shared) (H : Hp) (C : Addr) (cl : List (Str × Addr)) (fp : List Addr), DG (X.blk s H scope (compEnvC scope cl C X.env) fp) Y tg g ws) (ht : ∀ (s : Shared) (H : Hp) (C : Addr) (cl : List (Str × Addr)) (fp : List Addr), DTs (X.blk s H scope (compEnvC scope cl C X.env) fp) Y ifs tt)
    (he : ∀ (s : Shared) (H : Hp) (C : Addr) (cl : List (Str × Addr)) (fp : List Addr), DE (X.blk s H scope (compEnvC scope cl C X.env) fp) Y elt te) (hs : ∀ x, foldedSetIterable iter X.env x = pure x := by intro _; rfl) :
    DE X Y (.ListComp elt [⟨tg, iter, ifs, 0⟩] scope pos) (dLc fz wi g tt te (own.map (·.2))) :=
  PE.weak (pe_lc hc hN hi ok hg ht he hs) fun _ _ _ q => can_lc hv q
theorem ds_setLc (fz : Bool) {i : Nat} {y : Str} {py : Pos} {elt tg iter : Expr} {ifs : List Expr} {scope : Scope} {own : List (Str × Nat)} {spos : Pos} {wi : DTI} {g : DTG} {ws : List Nat} {tt : DTT} {te : DTE} (hc : X.calm = true) (hN : X.N.Nodup) (hy : X.N[i]? = some y) (hyl : X.env.scope.names.lookup y = some .local)
    (hsw : swapsWith (.ListComp elt [⟨tg, iter, ifs, 0⟩] scope pos) (some (.Name y py)) spos.line X.env = pure true) (hi : DI X Y tg iter wi) (ok : BlkOk X.N X.env.scope scope own) (hv : ∀ i ∈ ws, i ∈ own.map (·.2))
    (hg : ∀ (s : Shared) (H : Hp) (C : Addr) (cl : List (Str × Addr)) (fp : List Addr), DG (X.blk s H scope (compEnvC scope cl C X.env) fp) Y tg g ws) (ht : ∀ (s : Shared) (H : Hp) (C : Addr) (cl : List (Str × Addr)) (fp : List Addr), DTs (X.blk s H scope (compEnvC scope cl C X.env) fp) Y ifs tt)
    (he : ∀ (s : Shared) (H : Hp) (C : Addr) (cl : List (Str × Addr)) (fp : List Addr), DE (X.blk s H scope (compEnvC scope cl C X.env) fp) Y elt te) (hs : ∀ x, foldedSetIterable iter X.env x = pure x := by intro _; rfl) :
    DS X Y (.Assign [.Name y py] (.ListComp elt [⟨tg, iter, ifs, 0⟩] scope pos) spos) (dAsg (dLc fz wi g tt te (own.map (·.2))) (dgName i)) := by
  refine PS.weak (ps_setLc (g := canG Y g ws) (tt := canT Y tt) (te := canE Y te) hc hN hy hyl hsw hi ok hg ht he hs) ?_
  rintro D0 σ H ⟨F, M, ρ, D, rs, r, q, k⟩
  refine can_lc hv ⟨F, M, ρ, _, rs, r, q, fun v d F1 M1 H1 s1 rp q1 => ?_⟩
  exact k.nx _ _ F1 M1 H1 s1 ((rs.mono s1.same).set rp i) q1
end

end
end DL

/-! DG: the promise of a def where no repr is under way around it (guards = []); its call, its proof by the body, the law's end. -/
namespace DL
open PySem PySem.Spec L2
open PyProof.Rows hiding St

/-- as FnOk, but asked only where no repr is under way -/
structure GnOk (P : Program) (w : World) (K : PySem.W.Frag) (mg : Str → Option Value) (base : Heap) (CX : CXT) (k : Nat) (f : Addr) (fd : FuncData) (ps : List Str) (sp : Sp) : Prop where
  many : ∀ {vs H Q E}, sp vs H Q E → vs.length = ps.length
  go : ∀ {A : Around} {outer : List Env} {s : Shared} {H : Hp} {args : Args} {us : List Value} {vs : List V} {Q : VK} {E : XK},
    Room k A → A.guards = some [] → Env0 P w K mg base A outer s H → BindsTo s fd args (ps.zip us) → Vals vs us → sp vs H Q E →
    codeAny (model P w) A (.call (.ref f) args) (CR CX outer P w H s Q E) s
theorem GnOk.up {P : Program} {w : World} {K : PySem.W.Frag} {mg : Str → Option Value} {base : Heap} {CX : CXT} {j k : Nat} {f : Addr} {fd : FuncData} {ps : List Str} {sp : Sp}
    (G : GnOk P w K mg base CX j f fd ps sp) (h : j ≤ k) : GnOk P w K mg base CX k f fd ps sp :=
  ⟨G.many, fun r => G.go (r.mono h)⟩
section
variable {X : Cx} {Y : KJ X.K} {CX : CXT} {k : Nat} {f : Addr} {fd : FuncData} {ps : List Str} {sp : Sp} {dvs : List V} {ds : List Value} {E : XK} {x : Str} {p pos : Pos} {e : Expr} {es : List Expr} {t : TA}
theorem run_gn {pins : List (Addr × Obj)} {σ : St} {H : Hp} {s : Shared} {Q : VK} {us : List Value} {vs : List V}
    (G : GnOk X.prog X.w X.K X.mg X.base CX k f fd ps sp) (room : Room k X.A) (gu : X.A.guards = some []) (bi : Binds X.K fd ps ds) (dv : Vals dvs ds) (out : Passes CX X E)
    (I : Inv X pins σ H s) (rv : Vals vs us) (q : sp (vs ++ dvs) H Q E) : wpAny (model X.prog X.w) X.A (call (.ref f) us) (EP X pins σ Q) X.xe s := by
  have all := rv.append dv
  have cnt : (us ++ ds).length = ps.length := all.length.symm.trans (G.many q)
  refine wpAny_call (codeAny_mono (G.go room gu I.env0 (bi s us I.kIn cnt) all q) fun res s' hq => ?_)
  match res, hq with
  | .error er, hq => exact out pins σ H s er s' I hq
  | .ok (.ret u), hq => exact I.after hq
  | .ok .next, hq => exact hq.elim
  | .ok .brk, hq => exact hq.elim
  | .ok .cont, hq => exact hq.elim
theorem pe_gcall (G : GnOk X.prog X.w X.K X.mg X.base CX k f fd ps sp) (room : Room k X.A) (gu : X.A.guards = some []) (hg : Gl X x) (m : X.mg x = some (.ref f)) (kp : PySem.W.keepIn X.K (.ref f) = true)
    (bi : Binds X.K fd ps ds) (dv : Vals dvs ds) (out : Passes CX X E) (ha : PA X (e :: es) t) (nd : (x == ("__debug__" : Str)) = false) (se : starEach (e :: es) X.env = (false, eval e X.env) :: starEach es X.env)
    (ns : (backTo pos (starEach es X.env)).any (·.1) = false) : PE X (.Call (.Name x p) (e :: es) [] pos) (tCall sp dvs E t) := by
  constructor
  intro pins s σ H Q I q
  refine wpAny_Call_Name_kw (ld_glob I hg m ?_ nd)
  refine PySem.W.callWith_K (h₀ := X.base) I.ok.mod.kin kp (thn (ha.run pos pins s σ H _ I q) ?_) se ns
  rintro us s1 ⟨vs, H1, I1, rv, q1⟩
  exact ⟨I1.kIn, run_gn G room gu bi dv out I1 rv q1⟩
theorem pe_gcall0 (G : GnOk X.prog X.w X.K X.mg X.base CX k f fd ps sp) (room : Room k X.A) (gu : X.A.guards = some []) (hg : Gl X x) (m : X.mg x = some (.ref f)) (kp : PySem.W.keepIn X.K (.ref f) = true)
    (bi : Binds X.K fd ps ds) (dv : Vals dvs ds) (out : Passes CX X E) (nd : (x == ("__debug__" : Str)) = false) : PE X (.Call (.Name x p) [] [] pos) (tCall sp dvs E tNil) := by
  constructor
  intro pins s σ H Q I q
  refine wpAny_Call_Name_kw (ld_glob I hg m ?_ nd)
  exact PySem.W.callWith_K0 I.kIn kp (run_gn (us := []) G room gu bi dv out I .nil q)
end

/-- a def by its body, no repr under way -/
theorem gfn_of {CX : CXT} {P : Program} {w : World} {K : PySem.W.Frag} {mg : Str → Option Value} {base : Heap} {k : Nat} {f : Addr} {nm qual : Str} {par : Arguments} {body : List Stmt} {scope : Scope} {dV kV doc pm cd ct oc : Value} {an od : Option Addr}
    {osl : Array (Option Value)} {N ps : List Str} {sp : Sp} (lk : K.lookup f = some ⟨oc, od, .func (PySem.W.fnOf nm qual par body scope dV kV doc pm an cd ct), osl⟩) (hcd : PySem.W.codeIn K cd qual = true) (S : FnScope N ps scope)
    (many : ∀ {vs H Q E}, sp vs H Q E → vs.length = ps.length)
    (run : ∀ (A : Around) (outer : List Env) (s : Shared) (H : Hp) (vs : List V) (Q : VK) (E : XK), Room k (A.deeper (envOfC qual scope s.heap.objs.size f cd)) → (A.deeper (envOfC qual scope s.heap.objs.size f cd)).guards = some [] → sp vs H Q E →
      ∃ t, PSs (cxOf CX P w K mg base N qual scope f cd A outer s H E) body t ∧ t { nx := fun _ H' => Q .non H', rt := Q } (L2.start N vs) H) :
    GnOk P w K mg base CX (k + 1) f (PySem.W.fnOf nm qual par body scope dV kV doc pm an cd ct) ps sp := by
  constructor
  · exact many
  intro A outer s H args us vs Q E room gu e0 hb rv hs
  have cnt := many hs
  have keep : ∀ b o, base.get? b = some o → s.heap.get? b = some o := fun b o z => (e0.bs b o z).1
  have KX : K.In s.heap := e0.mod.kin.keeps keep
  have par : ∀ y ∈ ps.zip us, scope.names.lookup y.1 = some .local ∨ (scope.names.lookup y.1 = some .cell ∧ ((cellsFrom (s.heap.objs.size + 1) scope.names []).lookup y.1).isSome = true) := by
    rintro ⟨n, v⟩ hy
    cases S.par n (List.of_mem_zip hy).1 with
    | inl z => exact .inl z
    | inr z => exact .inr ⟨z, PySem.W.cellsFrom_some _ _ _ (.inl z)⟩
  refine codeAny_call_function room.depth (KX _ _ lk) rfl S.co S.gen rfl (PySem.W.codeRec_of KX hcd) (hb _ _ _ _ ?_)
  refine wpAny_newFunctionEnv_cells S.kind par ?_
  rintro env rfl s1 x
  refine ⟨(e0.mod.nolimit.keeps keep).keeps x.toInCall.keep, codeAny_func ?_⟩
  obtain ⟨t, ht, hq⟩ := run A outer s H vs Q E (room.deeper _) gu hs
  have I : Inv (cxOf CX P w K mg base N qual scope f cd A outer s H E) [] (L2.start N vs) H s1 := inv_start S room.hd e0 cnt rv x
  refine wpAny_mono (ht.run [] s1 (L2.start N vs) H _ I hq) ?_ fun _ _ z => z
  intro fl s' z
  match fl, z with
  | .ret u, ⟨v, σ', H', J, r, q⟩ => exact ⟨v, H', J.os, J.bare, J.base, J.hok, r, q⟩
  | .next, ⟨σ', H', J, q⟩ => exact ⟨V.non, H', J.os, J.bare, J.base, J.hok, rfl, q⟩
  | .brk, ⟨_, _, _, q⟩ => exact (show False from q).elim
  | .cont, ⟨_, _, _, q⟩ => exact (show False from q).elim

/-- the law's call over the heap behind the top -/
theorem glaw_call {CXa : CXT} {P : Program} {w : World} {K : PySem.W.Frag} {mg mb : Str → Option Value} {k : Nat} {fa a : Addr} {fd : FuncData} {x : Str} {sp : Sp} {s0 : Shared} {vs : List Value} {ns : List Int}
    (KX : K.In s0.heap) (hns : s0.heap.Ns mainGlobals mg) (hb : s0.heap.Ns builtinsNs mb) (hbb : ∀ x : Str, x ≠ "__name__" → mb x = bootBuiltins x) (hlim : s0.heap.NoLimit) (hg : s0.gens = #[])
    (ha : s0.heap.get? a = some { cls := .type "list", data := .seq vs.toArray }) (hi : IntsAre vs ns) (hl : ns.length ≤ sizeLine) (room : Room k callerA)
    (G : ∀ base : Heap, K.In base → base.Ns mainGlobals mg → GnOk P w K mg base CXa k fa fd [x] sp) (nothing : ∀ outer H s e s', ¬ CXa outer H s (fun _ _ _ => False) e s') (bind1 : ∀ (s : Shared) (u : Value), BindsTo s fd ⟨[u], []⟩ [(x, u)])
    (due : ∀ H : Hp, SqL K H a (ns.map V.int) → sp [.ref a] H (fun v _ => v = .bl true) fun _ _ _ => False) :
    codeAny (model P w) callerA (.call (.ref fa) ⟨[.ref a], []⟩) (fun r s' => r = .ok (.ret (.bool true)) ∧ OldK s0.heap s'.heap ∧ s'.os = s0.os ∧ AllBare s'.gens) s0 := by
  have rv := vals_ints hi
  have many := hi.length
  have main : ∀ H : Hp, (∀ b, H b = none ∨ ∃ o xs, H b = some (.frz o (.lst xs))) → SqL K H a (ns.map V.int) → HOk P w H s0.heap → (∀ b, H b ≠ none → b = a) → (H a ≠ none → K.lookup a = none) →
      codeAny (model P w) callerA (.call (.ref fa) ⟨[.ref a], []⟩) (fun r s' => r = .ok (.ret (.bool true)) ∧ OldK s0.heap s'.heap ∧ s'.os = s0.os ∧ AllBare s'.gens) s0 := by
    intro H only hS ok hA hK
    have isA : ∀ {b : Addr} {z : HO}, H b = some z → b = a := fun {b z} q => hA b (by rw [q]; exact fun y => by cases y)
    have plain : ∀ {b : Addr} {o : Obj} {es : Array DictEntry} {ep : Nat}, s0.heap.get? b = some o → o.data = .dict es ep → H b = none := by
      intro b o es ep e d
      cases q : H b with
      | none => rfl
      | some u =>
        obtain rfl := isA q
        rw [ha] at e
        cases e
        exact nomatch (show Data.seq vs.toArray _ = Data.dict es ep from d)
    have ns' : ∀ {b : Addr} {m : Str → Option Value}, s0.heap.Ns b m → (hidT s0.heap H).Ns b m := by
      rintro b m ⟨o, es, ep, e, d, r⟩
      exact ⟨o, es, ep, hidT_get e (plain e d), d, r⟩
    have Kb : K.In (hidT s0.heap H) := by
      intro b o e
      refine hidT_get (KX b o e) ?_
      cases q : H b with
      | none => rfl
      | some u =>
        obtain rfl := isA q
        rw [hK (by rw [q]; exact fun y => by cases y)] at e
        cases e
    have e0 : Env0 P w K mg (hidT s0.heap H) callerA [] s0 H := by
      refine ⟨rfl, ⟨Kb, ns' hns, ⟨mb, ns' hb, hbb⟩, ?_⟩, fun b o e => of_hidT e, Nat.le_of_eq (hidT_size _ _), trivial, ?_, ok, .of_eq hg⟩
      · obtain ⟨mc, h1, h2⟩ := hlim
        exact ⟨mc, ns' h1, h2⟩
      · intro b hb
        exact absurd (show b ∈ ([] : List Addr) from hb) (by simp)
    refine codeAny_mono ((G _ Kb (ns' hns)).go (args := ⟨[.ref a], []⟩) (us := [.ref a]) (vs := [V.ref a]) room rfl e0 (bind1 s0 (.ref a)) (.cons rfl .nil) (due H hS)) ?_
    intro r s' z
    match r, z with
    | .error _, z => exact absurd z (nothing _ _ _ _ _)
    | .ok .next, z => exact z.elim
    | .ok .brk, z => exact z.elim
    | .ok .cont, z => exact z.elim
    | .ok (.ret u), ⟨v, H', os, bare, un, ok', r', q⟩ =>
      obtain rfl : v = .bl true := q
      obtain rfl : u = Value.bool true := r'
      refine ⟨rfl, OldK.of_keep ?_, os, bare⟩
      intro b o e
      cases q : H b with
      | none => exact un.keep b o e q (fun z => absurd (show b ∈ ([] : List Addr) from z) (by simp)) (by simp)
      | some u =>
        rcases only b with z | ⟨ob, xs, z⟩
        · rw [q] at z
          cases z
        · have e1 := (ok b _ z).1
          have e2 := (ok' b _ (un.frzs b ob _ z)).1
          rw [e] at e1
          cases e1
          exact e2
  cases hk : K.lookup a with
  | some o =>
    have e := KX a o hk
    rw [ha] at e
    cases e
    exact main (fun _ => none) (fun _ => .inl rfl) (.inr ⟨_, vs.toArray, _, hk, rfl, rfl, rfl, by rw [List.size_toArray, many]; exact hl, by simpa using rv⟩) (fun b u z => nomatch z) (fun b z => absurd rfl z) fun z => absurd rfl z
  | none =>
    have at1 : ∀ {b : Addr}, b = a → (if b = a then some (HO.frz { cls := .type "list", data := .seq vs.toArray } (.lst (ns.map V.int))) else none) = some (.frz { cls := .type "list", data := .seq vs.toArray } (.lst (ns.map V.int))) := fun h => if_pos h
    refine main (fun b => if b = a then some (.frz { cls := .type "list", data := .seq vs.toArray } (.lst (ns.map V.int))) else none) ?_ (.inl (.inr ⟨_, at1 rfl⟩)) ?_ ?_ fun _ => hk
    · intro b
      by_cases h : b = a
      · exact .inr ⟨_, _, at1 h⟩
      · exact .inl (if_neg h)
    · intro b u z
      by_cases h : b = a
      · have z' := (at1 h).symm.trans z
        cases z'
        subst h
        exact ⟨ha, by rw [List.length_map]; exact hl, vs, _, rv, ha⟩
      · have z' := (if_neg h).symm.trans z
        cases z'
    · intro b z
      by_cases h : b = a
      · exact h
      · exact absurd (if_neg h) z
theorem gwalk_of {l : PySem.W.OpenLaw} {n k : Nat} {q : Program} {loose : List Str} {XP : (Str → Option Value) → Heap → Prop} {YP : World → Heap → Prop} {d : DefRec} {K : Params → PySem.W.Frag} {sp : World → Sp} {x : Str}
    (most : l.most = some n) (le : n ≤ sizeLine) (dfl : d.params.defaults = []) (room : Room k callerA)
    (inY : ∀ (w : World) (h : Heap), YP w h → (K w.params).In h)
    (G : ∀ (w : World) (mg : Str → Option Value) (fa : Addr) (h : Heap), (K w.params).In h → h.Ns mainGlobals mg → mg d.name = some (.ref fa) →
      ∃ fd : FuncData, (∀ (s : Shared) (u : Value), BindsTo s fd ⟨[u], []⟩ [(x, u)]) ∧
        ∀ base : Heap, (K w.params).In base → base.Ns mainGlobals mg → GnOk l.prog w (K w.params) mg base (L2.CX l.prog w) k fa fd [x] (sp w))
    (due : ∀ (w : World) (H : Hp) (a : Addr) (ns : List Int), ns.length ≤ n → SqL (K w.params) H a (ns.map V.int) → sp w [.ref a] H (fun v _ => v = .bl true) fun _ _ _ => False) :
    PySem.W.WalkO q loose XP YP l.row.toRowW d [] (fun f vs => PySem.call f vs) := by
  refine Att.attach_call most dfl ?_
  intro w s0 s1 mg mb fa o pm cd doc a vs ns G0 Y ho hd hcd hmg hobj hints hlen hg
  have KX := inY w _ Y
  obtain ⟨fd, hb, hF⟩ := G w mg fa _ KX G0.T.g hmg
  exact glaw_call KX G0.T.g G0.T.b G0.T.builtins G0.T.nolimit hg hobj hints (Nat.le_trans hlen le) room hF (fun _ _ _ _ _ ⟨_, _, _, _, _, _, _, _, _, _, _, _, z⟩ => z) hb fun H hS => due w H a ns hlen hS
/-! ### defs and calls -/
/-- what is wished where the class under x is raised with a value -/
abbrev DXK := Str → DL.D → Mp → Prop
abbrev DSp := List DL.D → Mp → DK → DXK → Prop
/-- an exception over data: of the class that stands under x, its value v -/
structure ExR (K : PySem.W.Frag) (F : Hp) (x : Str) (v : DL.D) (cls : Value) (d : Option Addr) : Prop where
  ex : ∃ (C dx : Addr) (u : V), PySem.W.nsIn K mainGlobals x = some (some (.ref C)) ∧ cls = .ref C ∧ d = some dx ∧ F dx = some (.xd [("value", u)]) ∧ Rp K F u v
/-- a promise over data, as one over the heap -/
def lift (K : PySem.W.Frag) (T : TT8) (sp : DSp) : Sp := fun vs H Q0 E0 => ∃ ds F M Q E, RpAll K F vs ds ∧ RelR K F M H ∧ LamX.Tabs T H ∧ sp ds M Q E ∧
  (∀ v d F' M' H', StpR K T F M H F' M' H' → Rp K F' v d → Q d M' → Q0 v H') ∧
  ∀ x v cls d F' M' H', StpR K T F M H F' M' H' → ExR K F' x v cls d → E x v M' → E0 cls d H'
/-- a def that is to be called by its name x: its promise over data; es: the defaults of its last parameters -/
structure Cal (P : Program) (w : World) (K : PySem.W.Frag) (T : TT8) (mg : Str → Option Value) (base : Heap) (k : Nat) (x : Str) (es : List DL.D) (sp : DSp) : Prop where
  ex : ∃ (f : Addr) (fd : FuncData) (ps : List Str) (dvs : List V) (us : List Value), GnOk P w K mg base (L2.CX P w) k f fd ps (lift K T sp) ∧ mg x = some (.ref f) ∧ PySem.W.keepIn K (.ref f) = true ∧ Binds K fd ps us ∧ Vals dvs us ∧ ∀ F, RpAll K F dvs es
def dCallX (sp : DSp) (es : List DL.D) (t : DTA) (E : DXK) : DTE := fun ρ M Q => t ρ M fun ds M1 => sp (ds ++ es) M1 Q E
def dCall (sp : DSp) (es : List DL.D) (t : DTA) : DTE := dCallX sp es t fun _ _ _ => False
theorem Cal.mono {P : Program} {w : World} {K : PySem.W.Frag} {T : TT8} {mg : Str → Option Value} {base : Heap} {j k : Nat} {x : Str} {es : List DL.D} {sp : DSp} (C : Cal P w K T mg base j x es sp) (h : j ≤ k) : Cal P w K T mg base k x es sp := by
  obtain ⟨f, fd, ps, dvs, us, a, b⟩ := C.ex
  exact ⟨f, fd, ps, dvs, us, a.up h, b⟩
/-- a body in sight of its tables, from which E may be raised -/
structure XG (X : Cx) (Y : KJ X.K) (E : DXK) : Prop where
  tabs : ∀ F M H, Y.J F M H → LamX.Tabs Y.T H
  ex : ∃ W, Takes X W ∧ ∀ σ F M H x v cls d, Rel Y F M H → ExR X.K F x v cls d → E x v M → W cls d σ H
/-- a body in sight of its tables -/
structure XT {K : PySem.W.Frag} (Y : KJ K) : Prop where
  tabs : ∀ F M H, Y.J F M H → LamX.Tabs Y.T H
theorem XG.xt {X : Cx} {Y : KJ X.K} {E : DXK} (g : XG X Y E) : XT Y := ⟨g.tabs⟩
theorem no_takes {X : Cx} : Takes X (fun _ _ _ _ => False) := fun _ _ x => by
  obtain ⟨_, _, _, _, _, _, _, _, _, _, _, _, _, _, _, _, z⟩ := x
  exact z.elim
theorem XT.none {X : Cx} {Y : KJ X.K} (t : XT Y) : XG X Y fun _ _ _ => False := ⟨t.tabs, _, no_takes, fun _ _ _ _ _ _ _ _ _ _ z => z⟩
section
variable {X : Cx} {Y : KJ X.K} {pos p : Pos}
/-- the exceptions' wish, over the heap -/
def xw (Y : KJ X.K) (E : DXK) : XK := fun cls d H => ∃ F M x v, Rel Y F M H ∧ ExR X.K F x v cls d ∧ E x v M
theorem XG.out {E : DXK} (g : XG X Y E) : Passes (L2.CX X.prog X.w) X (xw Y E) := by
  obtain ⟨W, tk, h⟩ := g.ex
  exact passes_call tk fun cls d σ H ⟨F, M, x, v, r, e, z⟩ => h σ F M H x v cls d r e z
theorem can_call {sp : DSp} {es : List DL.D} {dvs : List V} {t : DTA} {σ : St} {H : Hp} {Q0 : VK} {E : DXK} (tb : XT Y) (rd : ∀ F, RpAll X.K F dvs es) (h : canE Y (dCallX sp es t E) σ H Q0) : tCall (lift X.K Y.T sp) dvs (xw Y E) (canA Y t) σ H Q0 := by
  obtain ⟨F, M, ρ, Q, rs, r, q, k⟩ := h
  refine ⟨F, M, ρ, _, rs, r, q, fun vs ds F1 M1 H1 s1 rp q1 => ?_⟩
  refine ⟨ds ++ es, F1, M1, Q, E, rp.append (rd F1), s1.rel.r, tb.tabs _ _ _ s1.rel.j, q1, fun v d F2 M2 H2 s2 => k v d F2 M2 H2 (s1.trans (Stp.of s1.rel s2)), fun x v cls d F2 M2 H2 s2 e z => ?_⟩
  exact ⟨F2, M2, x, v, (Stp.of s1.rel s2).rel, e, z⟩
theorem de_callX {k : Nat} {x : Str} {es : List DL.D} {sp : DSp} {e : Expr} {args : List Expr} {t : DTA} {E : DXK} (C : Cal X.prog X.w X.K Y.T X.mg X.base k x es sp) (hr : Room k X.A) (gu : X.A.guards = some []) (g : XG X Y E) (ha : DA X Y (e :: args) t) (hg : Gl X x := by rfl)
    (hd : (x == ("__debug__" : Str)) = false := by decide) (he : starEach (e :: args) X.env = (false, eval e X.env) :: starEach args X.env := by rfl) (hpl : (backTo pos (starEach args X.env)).any (·.1) = false := by rfl) :
    DE X Y (.Call (.Name x p) (e :: args) [] pos) (dCallX sp es t E) := by
  obtain ⟨f, fd, ps, dvs, us, G, m, kp, b, vd, rd⟩ := C.ex
  exact PE.weak (pe_gcall G hr gu hg m kp b vd g.out ha hd he hpl) fun _ _ _ q => can_call g.xt rd q
theorem de_call {k : Nat} {x : Str} {es : List DL.D} {sp : DSp} {e : Expr} {args : List Expr} {t : DTA} (C : Cal X.prog X.w X.K Y.T X.mg X.base k x es sp) (hr : Room k X.A) (gu : X.A.guards = some []) (g : XT Y) (ha : DA X Y (e :: args) t) (hg : Gl X x := by rfl)
    (hd : (x == ("__debug__" : Str)) = false := by decide) (he : starEach (e :: args) X.env = (false, eval e X.env) :: starEach args X.env := by rfl) (hpl : (backTo pos (starEach args X.env)).any (·.1) = false := by rfl) :
    DE X Y (.Call (.Name x p) (e :: args) [] pos) (dCall sp es t) := de_callX C hr gu g.none ha hg hd he hpl
theorem de_call0 {k : Nat} {x : Str} {es : List DL.D} {sp : DSp} (C : Cal X.prog X.w X.K Y.T X.mg X.base k x es sp) (hr : Room k X.A) (gu : X.A.guards = some []) (g : XT Y) (hg : Gl X x := by rfl) (hd : (x == ("__debug__" : Str)) = false := by decide) : DE X Y (.Call (.Name x p) [] [] pos) (dCall sp es dNil) := by
  obtain ⟨f, fd, ps, dvs, us, G, m, kp, b, vd, rd⟩ := C.ex
  refine PE.weak (pe_gcall0 G hr gu hg m kp b vd g.none.out hd) fun σ H Q0 q => ?_
  obtain ⟨F, M, ρ, Q, rs, r, q, k⟩ := q
  exact ⟨es, F, M, Q, _, rd F, r.r, g.tabs _ _ _ r.j, q, fun v d F2 M2 H2 s2 => k v d F2 M2 H2 (Stp.of r s2), fun _ _ _ _ _ _ _ _ _ z => z.elim⟩
end
def dstart (N : List Str) (ds : List DL.D) : Rho := ds.map some ++ List.replicate (N.length - ds.length) none
theorem relS_start {K : PySem.W.Frag} {F : Hp} {N : List Str} {vs : List V} {ds : List DL.D} (h : RpAll K F vs ds) : RelS K F (L2.start N vs) (dstart N ds) := by
  refine ⟨?_, fun i d q => ?_⟩
  · unfold L2.start dstart; rw [List.length_append, List.length_append, List.length_map, List.length_map, List.length_replicate, List.length_replicate, h.length]
  · unfold dstart at q
    unfold L2.start
    by_cases hl : i < ds.length
    · rw [List.getElem?_append_left (by rw [List.length_map]; exact hl), List.getElem?_map] at q
      rw [List.getElem?_append_left (by rw [List.length_map, h.length]; exact hl), List.getElem?_map]
      cases e : ds[i]? with
      | none => rw [e] at q; cases q
      | some d' =>
        rw [e] at q; cases q
        obtain ⟨v, e1, r⟩ := h.get e
        exact ⟨v, by rw [e1]; rfl, r⟩
    · rw [List.getElem?_append_right (by rw [List.length_map]; omega), List.getElem?_replicate] at q
      split at q <;> cases q
/-- a def of the text as it stands behind the top, with how its parameters are bound -/
structure Has (K : PySem.W.Frag) (mg : Str → Option Value) (x qual : Str) (st : Stmt) (ps : List Str) (es : List DL.D) : Prop where
  ex : ∃ (f : Addr) (oc : Value) (od : Option Addr) (dV kV doc pm : Value) (an : Option Addr) (cdv ct : Value) (osl : Array (Option Value)) (us : List Value) (dvs : List V),
    K.lookup f = some ⟨oc, od, .func (PySem.W.fnOf x qual (defArgs st) (defBody st) (defScope st) dV kV doc pm an cdv ct), osl⟩ ∧ PySem.W.codeIn K cdv qual = true ∧ PySem.W.keepIn K (.ref f) = true ∧ mg x = some (.ref f) ∧
      Binds K (PySem.W.fnOf x qual (defArgs st) (defBody st) (defScope st) dV kV doc pm an cdv ct) ps us ∧ Vals dvs us ∧ ∀ F, RpAll K F dvs es
/-- a state behind the entry of a def -/
def fromE (K : PySem.W.Frag) (T : TT8) (F0 : Hp) (M0 : Mp) (H0 : Hp) : KJ K where
  T := T
  J := fun F M H => StpR K T F0 M0 H0 F M H ∧ LamX.Tabs T H
  cl := fun ⟨a, t⟩ s => ⟨a.trans s, s.tab t⟩
/-- a body is by rules, from any state on, wherever its exceptions go -/
def DBody (P : Program) (w : World) (K : PySem.W.Frag) (T : TT8) (mg : Str → Option Value) (base : Heap) (k : Nat) (N : List Str) (qual : Str) (st : Stmt) (f : Addr) (t : DXK → DTS) : Prop :=
  ∀ (cdv : Value) (A : Around) (outer : List Env) (s : Shared) (H : Hp) (E : XK) (Y : KJ K) (E1 : DXK), Y.T = T → Room k (A.deeper (envOfC qual (defScope st) s.heap.objs.size f cdv)) → (A.deeper (envOfC qual (defScope st) s.heap.objs.size f cdv)).guards = some [] →
    XG (cxOf (L2.CX P w) P w K mg base N qual (defScope st) f cdv A outer s H E) Y E1 → DSs (cxOf (L2.CX P w) P w K mg base N qual (defScope st) f cdv A outer s H E) Y (defBody st) (t E1)
/-- THE RULE for a def over data: its body by rules, and its reading -/
theorem dgn {P : Program} {w : World} {K : PySem.W.Frag} {T : TT8} {mg : Str → Option Value} {base : Heap} {x qual : Str} {st : Stmt} {N ps : List Str} {k : Nat} {sp : DSp} {f : Addr} {oc : Value} {od : Option Addr} {dV kV doc pm : Value} {an : Option Addr} {cd ct : Value} {osl : Array (Option Value)}
    (lk : K.lookup f = some ⟨oc, od, .func (PySem.W.fnOf x qual (defArgs st) (defBody st) (defScope st) dV kV doc pm an cd ct), osl⟩) (hcd : PySem.W.codeIn K cd qual = true) (S : FnScope N ps (defScope st)) {t : DXK → DTS}
    (body : DBody P w K T mg base k N qual st f t)
    (read : ∀ ds M Q E, sp ds M Q E → ds.length = ps.length ∧ t E { nx := fun _ M' => Q .non M', rt := Q } (dstart N ds) M) :
    GnOk P w K mg base (L2.CX P w) (k + 1) f (PySem.W.fnOf x qual (defArgs st) (defBody st) (defScope st) dV kV doc pm an cd ct) ps (lift K T sp) := by
  refine gfn_of lk hcd S ?_ ?_
  · rintro vs H Q E0 ⟨ds, F, M, Q, E, rp, _, _, q, _⟩
    rw [rp.length]; exact (read ds M Q E q).1
  · rintro A outer s H vs Q0 E0 room gu ⟨ds, F, M, Q, E, rp, r, tb, q, kk, ke⟩
    have g : XG (cxOf (L2.CX P w) P w K mg base N qual (defScope st) f cd A outer s H E0) (fromE K T F M H) E := by
      refine ⟨fun F M H j => j.2, fun cls d _ H => E0 cls d H, takes_of rfl rfl rfl rfl, fun σ F' M' H' x v cls d R e z => ke x v cls d F' M' H' R.j.1 e z⟩
    have B := body cd A outer s H E0 (fromE K T F M H) E rfl room gu g
    have s0 : Rel (fromE K T F M H) F M H := ⟨r, StpR.refl r, tb⟩
    refine ⟨_, B, F, M, dstart N ds, _, relS_start rp, s0, (read ds M Q E q).2, ⟨fun _ _ F' M' H' s' _ q' => kk .non .non F' M' H' s'.s .non q', fun v d F' M' H' s' rp' q' => kk v d F' M' H' s'.s rp' q', fun _ _ _ _ _ _ _ z => z.elim, fun _ _ _ _ _ _ _ z => z.elim⟩⟩
end DL

/-! DL3: operators, comparisons, items, slices, built-ins and methods over data. -/
namespace DL
open PySem PySem.Spec L2
open PyProof.Rows hiding St

/-! ### two places -/
abbrev RD2 := DL.D → DL.D → Mp → DK → Prop
def can2 {K : PySem.W.Frag} (Y : KJ K) (r : RD2) : R2 := fun x y H Q0 => ∃ F M d e Q, Rp K F x d ∧ Rp K F y e ∧ Rel Y F M H ∧ r d e M Q ∧
  ∀ v z F' M' H', Stp Y F M H F' M' H' → Rp K F' v z → Q z M' → Q0 v H'
abbrev OpD (X : Cx) (Y : KJ X.K) (f : Value → Value → Sem Value) (r : RD2) : Prop := OpR X f (can2 Y r)
def dOp (r : RD2) (t u : DTE) : DTE := fun ρ M Q => t ρ M fun x M1 => u ρ M1 fun y M2 => r x y M2 Q
section
variable {X : Cx} {Y : KJ X.K} {pos : Pos} {a b c : Expr} {t u v : DTE}
theorem can_op {K : PySem.W.Frag} {Y : KJ K} {r : RD2} {σ : St} {H : Hp} {Q0 : VK} (h : canE Y (dOp r t u) σ H Q0) : tOp (can2 Y r) (canE Y t) (canE Y u) σ H Q0 := by
  obtain ⟨F, M, ρ, Q, rs, rl, q, k⟩ := h
  refine ⟨F, M, ρ, _, rs, rl, q, fun x d F1 M1 H1 s1 rp1 q1 => ?_⟩
  refine ⟨F1, M1, ρ, _, rs.mono s1.same, s1.rel, q1, fun y e F2 M2 H2 s2 rp2 q2 => ?_⟩
  exact ⟨F2, M2, d, e, Q, rp1.mono s2.same, rp2, s2.rel, q2, fun v z F3 M3 H3 s3 => k v z F3 M3 H3 ((s1.trans s2).trans s3)⟩
theorem de_op {op : Operator} {r : RD2} (ho : OpD X Y (binaryOp op) r) (ha : DE X Y a t) (hb : DE X Y b u) : DE X Y (.BinOp a op b pos) (dOp r t u) :=
  PE.weak (pe_op ho ha hb) fun _ _ _ q => can_op q
theorem de_cmp {op : CmpOp} {r : RD2} (ho : OpD X Y (compareOp op) r) (ha : DE X Y a t) (hb : DE X Y b u) (hm : behindInMarks op b = false) : DE X Y (.Compare a [op] [b] pos) (dOp r t u) :=
  PE.weak (pe_cmpR ho ha hb hm) fun _ _ _ q => can_op q
theorem dt_cmp {op : CmpOp} {r : RD2} (ho : OpD X Y (compareOp op) r) (ha : DE X Y a t) (hb : DE X Y b u) (hm : behindInMarks op b = false) : DT X Y (.Compare a [op] [b] pos) (dB (dOp r t u)) := by
  refine PT.weak (pt_cmpR ho ha hb hm) ?_
  rintro σ H Q0 ⟨F, M, ρ, Q, rs, rl, q, k⟩
  refine can_op ⟨F, M, ρ, _, rs, rl, q, fun v d F1 M1 H1 s1 rp ⟨b, e, q1⟩ => ?_⟩
  subst e
  cases rp
  exact ⟨b, rfl, k b F1 M1 H1 s1 q1⟩
def dChain (r r' : RD2) (t u v : DTE) : DTE := fun ρ M Q => t ρ M fun x M1 => u ρ M1 fun y M2 => r x y M2 fun z M3 => ∃ k, z = .bl k ∧
  (if k = true then v ρ M3 fun w M4 => r' y w M4 Q else Q (.bl false) M3)
theorem can_chain {K : PySem.W.Frag} {Y : KJ K} {r r' : RD2} {σ : St} {H : Hp} {Q0 : VK} (h : canE Y (dChain r r' t u v) σ H Q0) : tChain (can2 Y r) (can2 Y r') (canE Y t) (canE Y u) (canE Y v) σ H Q0 := by
  obtain ⟨F, M, ρ, Q, rs, rl, q, k⟩ := h
  refine ⟨F, M, ρ, _, rs, rl, q, fun x d F1 M1 H1 s1 rp1 q1 => ?_⟩
  refine ⟨F1, M1, ρ, _, rs.mono s1.same, s1.rel, q1, fun y e F2 M2 H2 s2 rp2 q2 => ?_⟩
  have s12 := s1.trans s2
  refine ⟨F2, M2, d, e, _, rp1.mono s2.same, rp2, s2.rel, q2, fun vv z F3 M3 H3 s3 rp3 ⟨kk, ez, q3⟩ => ?_⟩
  have s13 := s12.trans s3
  subst ez
  cases rp3
  refine ⟨kk, rfl, ?_⟩
  cases kk with
  | false => exact k _ _ F3 M3 H3 s13 (.bl false) q3
  | true =>
    refine iteT ⟨F3, M3, ρ, _, rs.mono s13.same, s3.rel, q3, fun w dw F4 M4 H4 s4 rp4 q4 => ?_⟩
    exact ⟨F4, M4, e, dw, Q, (rp2.mono s3.same).mono s4.same, rp4, s4.rel, q4, fun v z F5 M5 H5 s5 => k v z F5 M5 H5 ((s13.trans s4).trans s5)⟩
theorem de_chain {op op' : CmpOp} {r r' : RD2} (ho : OpD X Y (compareOp op) r) (ho' : OpD X Y (compareOp op') r') (ha : DE X Y a t) (hb : DE X Y b u) (hc : DE X Y c v)
    (hm : lastMarks [op, op'] [b, c] = false := by with_unfolding_all rfl) : DE X Y (.Compare a [op, op'] [b, c] pos) (dChain r r' t u v) :=
  PE.weak (pe_chain ho ho' ha hb hc hm) fun _ _ _ q => can_chain q
theorem dt_chain {op op' : CmpOp} {r r' : RD2} (ho : OpD X Y (compareOp op) r) (ho' : OpD X Y (compareOp op') r') (ha : DE X Y a t) (hb : DE X Y b u) (hc : DE X Y c v)
    (hm : lastMarks [op, op'] [b, c] = false := by with_unfolding_all rfl) : DT X Y (.Compare a [op, op'] [b, c] pos) (dB (dChain r r' t u v)) := by
  refine PT.weak (pt_chain ho ho' ha hb hc hm) ?_
  rintro σ H Q0 ⟨F, M, ρ, Q, rs, rl, q, k⟩
  refine can_chain ⟨F, M, ρ, _, rs, rl, q, fun v d F1 M1 H1 s1 rp ⟨b, e, q1⟩ => ?_⟩
  subst e
  cases rp
  exact ⟨b, rfl, k b F1 M1 H1 s1 q1⟩
end

/-! ### the items of a list, wherever it stands -/
def mol : Option MO → Option (List DL.D)
  | some (.lst xs) => some xs
  | none => none
theorem mol_some {o : Option MO} {ds : List DL.D} (h : mol o = some ds) : o = some (.lst ds) := by
  cases o with
  | none => cases h
  | some m => cases m; cases h; rfl
def lstOf (M : Mp) : DL.D → Option (List DL.D)
  | .lst xs => some xs
  | .slst xs => some xs
  | .ref a => mol (M a)
  | _ => none
/-- the same, without the lists that the module or the caller holds -/
def lstIn (M : Mp) : DL.D → Option (List DL.D)
  | .lst xs => some xs
  | .ref a => mol (M a)
  | _ => none
section
variable {K : PySem.W.Frag} {Y : KJ K} {F : Hp} {M : Mp} {H : Hp}
theorem lstOf_rp {v : V} {d : DL.D} {ds : List DL.D} (R : Rel Y F M H) (r : Rp K F v d) (h : lstOf M d = some ds) : ∃ a xs, v = .ref a ∧ SqL K H a xs ∧ RpAll K F xs ds := by
  cases r with
  | lst e ra => cases h; exact ⟨_, _, rfl, SqL.of (R.sub _ _ e), ra⟩
  | slst e ra => cases h; exact ⟨_, _, rfl, R.sub.seq e, ra⟩
  | ref a =>
    obtain ⟨xs, e1, ra⟩ := R.lst (mol_some (show mol (M a) = some ds from h))
    exact ⟨a, xs, rfl, SqL.of e1, ra⟩
  | _ => cases h
theorem lstIn_rp {v : V} {d : DL.D} {ds : List DL.D} (R : Rel Y F M H) (r : Rp K F v d) (h : lstIn M d = some ds) : ∃ a xs, v = .ref a ∧ H a = some (.lst xs) ∧ RpAll K F xs ds := by
  cases r with
  | lst e ra => cases h; exact ⟨_, _, rfl, R.sub _ _ e, ra⟩
  | ref a =>
    obtain ⟨xs, e1, ra⟩ := R.lst (mol_some (show mol (M a) = some ds from h))
    exact ⟨a, xs, rfl, e1, ra⟩
  | _ => cases h
theorem lstOf_ref {a : Addr} {ds : List DL.D} (h : M a = some (.lst ds)) : lstOf M (.ref a) = some ds := by show mol (M a) = some ds; rw [h]; rfl
theorem lstIn_ref {a : Addr} {ds : List DL.D} (h : M a = some (.lst ds)) : lstIn M (.ref a) = some ds := by show mol (M a) = some ds; rw [h]; rfl
end

/-! ### arithmetic, joining -/
def rInt (C : Int → Int → Prop) (g : Int → Int → DL.D) : RD2 := fun x y M Q => ∃ i j, x = .int i ∧ y = .int j ∧ C i j ∧ Q (g i j) M
def rAddD (fz : Bool) : RD2
  | .int i, .int j, M, Q => Q (.int (i + j)) M
  | .str x, .str y, M, Q => x.length + y.length ≤ sizeLine ∧ Q (.str (x ++ y)) M
  | .tup xs, .tup ys, M, Q => xs.length + ys.length ≤ sizeLine ∧ Q (.tup (xs ++ ys)) M
  | x, y, M, Q => ∃ xs ys, lstIn M x = some xs ∧ lstIn M y = some ys ∧ xs.length + ys.length ≤ sizeLine ∧ newL fz (xs ++ ys) M Q
section
variable {X : Cx} {Y : KJ X.K}
theorem op_int {f : Value → Value → Sem Value} {C : Int → Int → Prop} {g : Int → Int → V} {g' : Int → Int → DL.D} (h : OpR X f (rI C g)) (hg : ∀ F i j, Rp X.K F (g i j) (g' i j)) : OpD X Y f (rInt C g') := by
  intro pins s σ H x y v u Q0 I rx ry ⟨F, M, d, e, Q, r1, r2, rl, ⟨i, j, e1, e2, c, q⟩, k⟩
  subst e1 e2
  cases r1
  cases r2
  exact h pins s σ H _ _ v u Q0 I rx ry ⟨i, j, rfl, rfl, c, k _ _ F M H (Stp.refl rl) (hg F i j) q⟩
theorem op_int0 {f : Value → Value → Sem Value} {g : Int → Int → V} {g' : Int → Int → DL.D} (h : OpR X f (rI0 g)) (hg : ∀ F i j, Rp X.K F (g i j) (g' i j)) : OpD X Y f (rInt (fun _ _ => True) g') := by
  intro pins s σ H x y v u Q0 I rx ry ⟨F, M, d, e, Q, r1, r2, rl, ⟨i, j, e1, e2, _, q⟩, k⟩
  subst e1 e2
  cases r1
  cases r2
  exact h pins s σ H _ _ v u Q0 I rx ry ⟨i, j, rfl, rfl, k _ _ F M H (Stp.refl rl) (hg F i j) q⟩
theorem od_add (fz : Bool) : OpD X Y (binaryOp .Add) (rAddD fz) := by
  intro pins s σ H x y v u Q0 I rx ry ⟨F, M, d, e, Q, r1, r2, rl, q, k⟩
  have lists : ∀ xs ys, lstIn M d = some xs → lstIn M e = some ys → xs.length + ys.length ≤ sizeLine → newL fz (xs ++ ys) M Q → wpAny (model X.prog X.w) X.A (binaryOp .Add v u) (EP X pins σ Q0) X.xe s := by
    intro xs ys e1 e2 hz q
    obtain ⟨a, vs, rfl, h1, ra⟩ := lstIn_rp rl r1 e1
    obtain ⟨b, ws, rfl, h2, rb⟩ := lstIn_rp rl r2 e2
    exact op_cat pins s σ H _ _ v u Q0 I rx ry ⟨a, b, vs, ws, rfl, rfl, h1, h2, by rw [ra.length, rb.length]; exact hz, fun p hp => newL_ok rl (ra.append rb) q k p hp⟩
  unfold rAddD at q
  split at q
  · cases r1
    cases r2
    exact op_add pins s σ H _ _ v u Q0 I rx ry ⟨_, _, rfl, rfl, k _ _ F M H (Stp.refl rl) (.int _) q⟩
  · cases r1
    cases r2
    exact op_add_str pins s σ H _ _ v u Q0 I rx ry ⟨_, _, rfl, rfl, q.1, k _ _ F M H (Stp.refl rl) (.str _) q.2⟩
  · cases r1 with
    | tup s1 ra =>
      cases r2 with
      | tup s2 rb =>
        refine op_catA pins s σ H _ _ v u Q0 I rx ry ⟨_, _, _, _, rfl, rfl, Same.tseq rl.sub s1, Same.tseq rl.sub s2, by rw [ra.length, rb.length]; exact q.1, fun e => ?_, fun _ e => ?_, fun _ _ p hp => newT_ok rl (ra.append rb) q.2 k p hp⟩
        · subst e
          cases ra
          exact k _ _ F M H (Stp.refl rl) (.tup s2 rb) q.2
        · subst e
          cases rb
          refine k _ _ F M H (Stp.refl rl) (.tup s1 ra) ?_
          have := q.2
          rwa [List.append_nil] at this
  · obtain ⟨xs, ys, e1, e2, hz, q⟩ := q
    exact lists xs ys e1 e2 hz q

theorem od_sub : OpD X Y (binaryOp .Sub) (rInt (fun _ _ => True) fun i j => .int (i - j)) := op_int0 op_sub fun _ _ _ => .int _
theorem od_mod : OpD X Y (binaryOp .Mod) (rInt (fun _ j => 0 < j) fun i j => .int (i % j)) := op_int op_mod fun _ _ _ => .int _
theorem od_fdiv : OpD X Y (binaryOp .FloorDiv) (rInt (fun _ j => 0 < j ∧ j.natAbs < 2 ^ 64) fun i j => .int (i / j)) := by
  intro pins s σ H x y v u Q0 I rx ry ⟨F, M, d, e, Q, r1, r2, rl, ⟨i, j, e1, e2, c, q⟩, k⟩
  exact op_int (C := CDivW) (g' := fun i j => .int (i / j)) op_fdivW (fun _ _ _ => .int _) pins s σ H x y v u Q0 I rx ry ⟨F, M, d, e, Q, r1, r2, rl, ⟨i, j, e1, e2, wide_div c.1 c.2 (by decide) (by decide), q⟩, k⟩
theorem od_pow : OpD X Y (binaryOp .Pow) (rInt (fun i j => 0 ≤ j ∧ j ≤ 1000000 ∧ i.natAbs < 2 ^ 64) fun i j => .int (i ^ j.toNat)) := op_int op_pow fun _ _ _ => .int _
/-- ** of great numbers -/
theorem op_powW : OpR X (binaryOp .Pow) (rI (fun i j => 0 ≤ j ∧ (Builtin.Int.intBits i : Int) * j ≤ 2 ^ 27) fun i j => .int (i ^ j.toNat)) := opI fun _ _ _ _ _ _ _ hc q => pow_int hc.1 hc.2 q
theorem od_powW : OpD X Y (binaryOp .Pow) (rInt (fun i j => 0 ≤ j ∧ (Builtin.Int.intBits i : Int) * j ≤ 2 ^ 27) fun i j => .int (i ^ j.toNat)) := op_int op_powW fun _ _ _ => .int _

/-! ### * -/
def repS (x : Str) (n : Int) : Str := ⟨(List.replicate n.toNat x.cps.toList).flatten.toArray⟩
theorem repS_foldl (x : Str) : ∀ (n : Nat) (acc : Array Nat), (List.replicate n x.cps).foldl (· ++ ·) acc = acc ++ (List.replicate n x.cps.toList).flatten.toArray
  | 0, acc => by simp
  | n + 1, acc => by
    rw [List.replicate_succ, List.foldl_cons, repS_foldl x n, List.replicate_succ, List.flatten_cons]
    apply Array.ext'
    simp
theorem repS_eq (x : Str) (n : Int) : (⟨(List.replicate n.toNat x.cps).foldl (· ++ ·) #[]⟩ : Str) = repS x n := by
  unfold repS
  rw [repS_foldl]
  simp
theorem repS_len (x : Str) (n : Int) : (repS x n).length = n.toNat * x.length := by
  show (List.replicate n.toNat x.cps.toList).flatten.toArray.size = n.toNat * x.cps.size
  simp
theorem op_mul_str : OpR X (binaryOp .Mult) (fun x y H Q => ∃ z n, x = .str z ∧ y = .int n ∧ 0 ≤ n ∧ n ≤ 16384 ∧ z.length ≤ 1024 ∧ Q (.str (repS z n)) H) := by
  intro pins s σ H x y v u Q I rx ry h
  obtain ⟨z, n, rfl, rfl, h1, h2, hz, q⟩ := h
  obtain ⟨t, rfl⟩ := rx
  obtain ⟨t', rfl⟩ := ry
  have hsz : (sizeLine : Nat) = 16777216 := sizeLine_eq
  have hnat : z.length * n.toNat ≤ 1024 * 16384 := Nat.mul_le_mul hz (by omega)
  have fin : ∀ tk : Tok, EP X pins σ Q (.str (repS z n) tk) { s with toks := s.toks + 1 } := fun tk => ⟨.str _, H, I.tok _, ⟨_, rfl⟩, q⟩
  refine PySem.P.mul_str ?_ (fun h3 _ => ?_) (fun h3 _ => ?_) ?_
  · rw [decide_eq_false (by omega), decide_eq_false (by omega)]; rfl
  · intro hgt
    have hdiv : (1024 : Int) ≤ (2 ^ 63 - 1) / n := (Int.le_ediv_iff_mul_le (by omega)).mpr (by omega)
    omega
  · unfold Builtin.Str.tooLong
    rw [decide_eq_false (by omega)]
  · split
    · rename_i h0
      have e0 : n = 0 := by omega
      subst e0
      exact ⟨by decide, fin _⟩
    · split
      · rename_i h0 h3
        have e1 : repS z n = z := by
          have e : n = 1 ∨ z.length = 0 := by simpa using h3
          unfold repS
          rcases e with e | e
          · subst e; simp
          · have ez : z.cps = #[] := Array.size_eq_zero_iff.mp e
            obtain ⟨c⟩ := z
            simp only at ez
            subst ez
            simp
        refine ⟨.str z, H, I, ⟨_, rfl⟩, ?_⟩
        rw [← e1]; exact q
      · refine ⟨?_, ?_⟩
        · rw [repS_eq, repS_len, Nat.mul_comm]; omega
        · rw [repS_eq]; exact fin _
def rMulD (fz : Bool) : RD2
  | .int i, .int j, M, Q => (∃ a b : Nat, i.natAbs < 2 ^ a ∧ j.natAbs < 2 ^ b ∧ a + b ≤ 134217728) ∧ Q (.int (i * j)) M
  | .str x, .int n, M, Q => 0 ≤ n ∧ n ≤ 16384 ∧ x.length ≤ 1024 ∧ Q (.str (repS x n)) M
  | x, .int n, M, Q => ∃ xs, lstIn M x = some xs ∧ 0 ≤ n ∧ n < 2 ^ 62 ∧ xs.length * n.toNat ≤ sizeLine ∧ newL fz (List.replicate n.toNat xs).flatten M Q
  | _, _, _, _ => False
theorem od_mul (fz : Bool) : OpD X Y (binaryOp .Mult) (rMulD fz) := by
  intro pins s σ H x y v u Q0 I rx ry ⟨F, M, d, e, Q, r1, r2, rl, q, k⟩
  unfold rMulD at q
  split at q
  · cases r1
    cases r2
    obtain ⟨⟨a, b, ha, hb, hab⟩, q⟩ := q
    exact (opI fun _ _ _ _ _ _ _ hc q => mul_int q (CMulX.ok hc)) pins s σ H _ _ v u Q0 I rx ry ⟨_, _, rfl, rfl, mulx_ok ha hb hab, k _ _ F M H (Stp.refl rl) (.int _) q⟩
  · cases r1
    cases r2
    obtain ⟨h1, h2, h3, q⟩ := q
    exact op_mul_str pins s σ H _ _ v u Q0 I rx ry ⟨_, _, rfl, rfl, h1, h2, h3, k _ _ F M H (Stp.refl rl) (.str _) q⟩
  · cases r2
    obtain ⟨xs, e1, h1, h2, hz, q⟩ := q
    obtain ⟨a, vs, rfl, h3, ra⟩ := lstIn_rp rl r1 e1
    exact op_rep pins s σ H _ _ v u Q0 I rx ry ⟨a, _, vs, rfl, rfl, h3, by omega, by omega, by rw [ra.length]; exact hz, fun p hp => newL_ok rl (ra.rep _) q k p hp⟩
  · exact q.elim

/-! ### == and != -/
mutual
def D.py : DL.D → Option PyData
  | .non => some .none
  | .bl b => some (.bool b)
  | .int i => some (.int i)
  | .str x => some (.str x)
  | .tup xs => match pyAll xs with
    | some ps => some (.tuple ps)
    | none => none
  | .lst xs => match pyAll xs with
    | some ps => some (.list ps)
    | none => none
  | .slst xs => match pyAll xs with
    | some ps => some (.list ps)
    | none => none
  | .ref _ => none
  | .dct _ _ => none
  | .exc _ _ => none
def pyAll : List DL.D → Option (List PyData)
  | [] => some []
  | x :: xs => match x.py, pyAll xs with
    | some p, some ps => some (p :: ps)
    | _, _ => none
end
mutual
theorem py_dp {K : PySem.W.Frag} {F H : Hp} (sub : Same F H) : ∀ (d : DL.D) (v : V) (p : PyData), Rp K F v d → d.py = some p → Dp K H v p
  | .non, _, _, r, h => by cases r; simp only [D.py] at h; cases h; exact .non
  | .bl b, _, _, r, h => by cases r; simp only [D.py] at h; cases h; exact .bl b
  | .int i, _, _, r, h => by cases r; simp only [D.py] at h; cases h; exact .int i
  | .str x, _, _, r, h => by cases r; simp only [D.py] at h; cases h; exact .str x
  | .ref a, _, _, r, h => by simp only [D.py] at h; cases h
  | .dct _ _, _, _, r, h => by simp only [D.py] at h; cases h
  | .exc _ _, _, _, r, h => by simp only [D.py] at h; cases h
  | .tup xs, _, _, r, h => by
    cases r with
    | tup sq ra =>
      simp only [D.py] at h
      split at h
      · rename_i ps e
        cases h
        exact .tup (Same.tseq sub sq) (pyAll_dp sub xs _ ps ra e)
      · cases h
  | .lst xs, _, _, r, h => by
    cases r with
    | lst sq ra =>
      simp only [D.py] at h
      split at h
      · rename_i ps e
        cases h
        exact .lst (SqL.of (sub _ _ sq)) (pyAll_dp sub xs _ ps ra e)
      · cases h
  | .slst xs, _, _, r, h => by
    cases r with
    | slst sq ra =>
      simp only [D.py] at h
      split at h
      · rename_i ps e
        cases h
        exact .lst (sub.seq sq) (pyAll_dp sub xs _ ps ra e)
      · cases h
theorem pyAll_dp {K : PySem.W.Frag} {F H : Hp} (sub : Same F H) : ∀ (ds : List DL.D) (vs : List V) (ps : List PyData), RpAll K F vs ds → pyAll ds = some ps → DpAll K H vs ps
  | [], _, _, r, h => by cases r; simp only [pyAll] at h; cases h; exact .nil
  | d :: ds, _, _, r, h => by
    cases r with
    | cons r1 r2 =>
      simp only [pyAll] at h
      split at h
      · rename_i p ps e1 e2
        cases h
        exact .cons (py_dp sub d _ p r1 e1) (pyAll_dp sub ds _ ps r2 e2)
      · cases h
end
/-- a value's data; a list that may change: as it stands -/
def pyM (M : Mp) : DL.D → Option PyData
  | .ref a => match mol (M a) with
    | some xs => match pyAll xs with
      | some ps => some (.list ps)
      | none => none
    | none => none
  | d => d.py
theorem pyM_dp {K : PySem.W.Frag} {Y : KJ K} {F : Hp} {M : Mp} {H : Hp} (R : Rel Y F M H) {v : V} {d : DL.D} {p : PyData} (r : Rp K F v d) (h : pyM M d = some p) : Dp K H v p := by
  unfold pyM at h
  split at h
  · cases r
    split at h
    · rename_i xs e
      split at h
      · rename_i ps e2
        cases h
        obtain ⟨vs, h1, ra⟩ := R.lst (mol_some e)
        exact .lst (SqL.of h1) (pyAll_dp R.sub xs vs ps ra e2)
      · cases h
    · cases h
  · exact py_dp R.sub _ _ _ r h
def rEqD2 (neg : Bool) : RD2
  | .str a, .str b, M, Q => Q (.bl (if neg then !decide (a = b) else decide (a = b))) M
  | .int a, .int b, M, Q => Q (.bl (if neg then !decide (a = b) else decide (a = b))) M
  | .bl a, .bl b, M, Q => Q (.bl (if neg then !decide (a = b) else decide (a = b))) M
  | .str _, .non, M, Q => Q (.bl neg) M
  | .non, .str _, M, Q => Q (.bl neg) M
  | .int _, .non, M, Q => Q (.bl neg) M
  | .non, .int _, M, Q => Q (.bl neg) M
  | .bl _, .non, M, Q => Q (.bl neg) M
  | .non, .bl _, M, Q => Q (.bl neg) M
  | .non, .non, M, Q => Q (.bl (!neg)) M
  | .int _, .str _, M, Q => Q (.bl neg) M
  | .str _, .int _, M, Q => Q (.bl neg) M
  | .bl _, .str _, M, Q => Q (.bl neg) M
  | .str _, .bl _, M, Q => Q (.bl neg) M
  | x, y, M, Q => ∃ p q, pyM M x = some p ∧ pyM M y = some q ∧ SeqAt.shaped p = true ∧ SeqAt.shaped q = true ∧ Q (.bl (if neg then !PyData.eqv p q else PyData.eqv p q)) M
theorem od_eqs (neg : Bool) (hu : X.A.units + 64 < cLine) : OpD X Y (compareOp (if neg then .NotEq else .Eq)) (rEqD2 neg) := by
  intro pins s σ H x y v u Q0 I rx ry ⟨F, M, d, e, Q, r1, r2, rl, q, k⟩
  have sc : ∀ b : Bool, L2.scal x y = true → Rp X.K F (.bl b) (.bl b) → (if neg then !decide (x = y) else decide (x = y)) = b → Q (.bl b) M → wpAny (model X.prog X.w) X.A (compareOp (if neg then .NotEq else .Eq) v u) (EP X pins σ Q0) X.xe s := by
    intro b hs _ hb q
    have k1 := k _ _ F M H (Stp.refl rl) (.bl b) q
    cases neg with
    | true => exact op_ne pins s σ H x y v u Q0 I rx ry ⟨hs, by rw [show (!decide (x = y)) = b from hb]; exact k1⟩
    | false => exact op_eq pins s σ H x y v u Q0 I rx ry ⟨hs, by rw [show decide (x = y) = b from hb]; exact k1⟩
  unfold rEqD2 at q
  split at q
  all_goals first
    | (cases r1; cases r2; refine sc _ rfl (.bl _) ?_ q; cases neg <;> simp)
    | (obtain ⟨p, p2, e1, e2, h1, h2, q⟩ := q
       have k1 := k _ _ F M H (Stp.refl rl) (.bl _) q
       have d1 := pyM_dp rl r1 e1
       have d2 := pyM_dp rl r2 e2
       cases neg with
       | true => exact op_neD hu pins s σ H x y v u Q0 I rx ry ⟨p, p2, d1, d2, h1, h2, k1⟩
       | false => exact op_eqD hu pins s σ H x y v u Q0 I rx ry ⟨p, p2, d1, d2, h1, h2, k1⟩)
theorem od_eq {n : Nat} (hr : Room n X.A) : OpD X Y (compareOp .Eq) (rEqD2 false) := od_eqs false hr.units
theorem od_ne {n : Nat} (hr : Room n X.A) : OpD X Y (compareOp .NotEq) (rEqD2 true) := od_eqs true hr.units

/-! ### order, in -/
def rLtD : RD2
  | .int i, .int j, M, Q => Q (.bl (decide (i < j))) M
  | .str x, .str y, M, Q => Q (.bl (decide (x.cps.toList < y.cps.toList))) M
  | _, _, _, _ => False
theorem od_lt : OpD X Y (compareOp .Lt) rLtD := by
  intro pins s σ H x y v u Q0 I rx ry ⟨F, M, d, e, Q, r1, r2, rl, q, k⟩
  unfold rLtD at q
  split at q
  · cases r1
    cases r2
    exact op_lt pins s σ H _ _ v u Q0 I rx ry ⟨_, _, rfl, rfl, k _ _ F M H (Stp.refl rl) (.bl _) q⟩
  · cases r1
    cases r2
    exact op_lt_str pins s σ H _ _ v u Q0 I rx ry ⟨_, _, rfl, rfl, k _ _ F M H (Stp.refl rl) (.bl _) q⟩
  · exact q.elim
theorem od_le : OpD X Y (compareOp .LtE) (rInt (fun _ _ => True) fun i j => .bl (decide (i ≤ j))) := op_int0 op_le fun _ _ _ => .bl _
theorem od_gt : OpD X Y (compareOp .Gt) (rInt (fun _ _ => True) fun i j => .bl (decide (j < i))) := op_int0 op_gt fun _ _ _ => .bl _
theorem od_ge : OpD X Y (compareOp .GtE) (rInt (fun _ _ => True) fun i j => .bl (decide (j ≤ i))) := op_int0 op_ge fun _ _ _ => .bl _
/-- a flat value as it is told without the heap -/
def vOf : DL.D → V
  | .bl b => .bl b
  | .int i => .int i
  | .str x => .str x
  | _ => .non
def flatD : DL.D → Bool
  | .non => true
  | .bl _ => true
  | .int _ => true
  | .str _ => true
  | _ => false
theorem flat_v {K : PySem.W.Frag} {F : Hp} {v : V} {d : DL.D} (r : Rp K F v d) (h : flatD d = true) : v = vOf d ∧ L2.flatV v = true := by
  cases r <;> first | exact ⟨rfl, rfl⟩ | cases h
theorem flat_vs {K : PySem.W.Frag} {F : Hp} : ∀ {vs : List V} {ds : List DL.D}, RpAll K F vs ds → ds.all flatD = true → vs = ds.map vOf ∧ vs.all L2.flatV = true
  | _, _, .nil, _ => ⟨rfl, rfl⟩
  | _, _, .cons r t, h => by
    rw [List.all_cons, Bool.and_eq_true] at h
    obtain ⟨e1, e2⟩ := flat_v r h.1
    obtain ⟨e3, e4⟩ := flat_vs t h.2
    exact ⟨by rw [List.map_cons, ← e1, ← e3], by rw [List.all_cons, e2, e4]; rfl⟩
def seqOf (M : Mp) : DL.D → Option (List DL.D)
  | .tup xs => some xs
  | d => lstOf M d
theorem seqOf_rp {K : PySem.W.Frag} {Y : KJ K} {F : Hp} {M : Mp} {H : Hp} {v : V} {d : DL.D} {ds : List DL.D} (R : Rel Y F M H) (r : Rp K F v d) (h : seqOf M d = some ds) : ∃ a xs, v = .ref a ∧ (SqL K H a xs ∨ SqT K H a xs) ∧ RpAll K F xs ds := by
  unfold seqOf at h
  split at h
  · cases h
    cases r with
    | tup sq ra => exact ⟨_, _, rfl, .inr (Same.tseq R.sub sq), ra⟩
  · obtain ⟨a, xs, e, h1, ra⟩ := lstOf_rp R r h
    exact ⟨a, xs, e, .inl h1, ra⟩
def rInD (neg : Bool) : RD2
  | .str x, .str y, M, Q => ∃ c, x = ⟨#[c]⟩ ∧ Q (.bl (if neg then !decide (c ∈ y.cps.toList) else decide (c ∈ y.cps.toList))) M
  | d, e, M, Q => ∃ ys, seqOf M e = some ys ∧ flatD d = true ∧ ys.all flatD = true ∧ Q (.bl (if neg then !(ys.any fun y => L2.eqV (vOf y) (vOf d)) else ys.any fun y => L2.eqV (vOf y) (vOf d))) M
theorem od_ins (neg : Bool) : OpD X Y (compareOp (if neg then .NotIn else .In)) (rInD neg) := by
  intro pins s σ H x y v u Q0 I rx ry ⟨F, M, d, e, Q, r1, r2, rl, q, k⟩
  unfold rInD at q
  split at q
  · cases r1
    cases r2
    obtain ⟨c, e1, q⟩ := q
    subst e1
    have k1 := k _ _ F M H (Stp.refl rl) (.bl _) q
    cases neg with
    | true => exact op_notIn_sign pins s σ H _ _ v u Q0 I rx ry ⟨c, _, rfl, rfl, k1⟩
    | false => exact op_in_sign pins s σ H _ _ v u Q0 I rx ry ⟨c, _, rfl, rfl, k1⟩
  · obtain ⟨ys, e1, f1, f2, q⟩ := q
    have k1 := k _ _ F M H (Stp.refl rl) (.bl _) q
    obtain ⟨a, xs, rfl, h1, ra⟩ := seqOf_rp rl r2 e1
    obtain ⟨ev, fv⟩ := flat_v r1 f1
    obtain ⟨ews, fws⟩ := flat_vs ra f2
    have ei : (ys.any fun y => L2.eqV (vOf y) (vOf d)) = L2.inV x xs := by
      unfold L2.inV
      rw [ews, ev, List.any_map]
      rfl
    rw [ei] at k1
    cases neg with
    | true => exact op_notIn_seq pins s σ H _ _ v u Q0 I rx ry ⟨a, xs, rfl, h1, fv, fws, k1⟩
    | false => exact op_in_seq pins s σ H _ _ v u Q0 I rx ry ⟨a, xs, rfl, h1, fv, fws, k1⟩
theorem od_in : OpD X Y (compareOp .In) (rInD false) := od_ins false
theorem od_notIn : OpD X Y (compareOp .NotIn) (rInD true) := od_ins true
def isNon : DL.D → Bool
  | .non => true
  | _ => false
def rIsN (neg : Bool) : RD2 := fun x y M Q => y = .non ∧ Q (.bl (if neg then !isNon x else isNon x)) M
theorem isNon_v {K : PySem.W.Frag} {F : Hp} {v : V} {d : DL.D} (r : Rp K F v d) : decide (v = .non) = isNon d := by cases r <;> simp [isNon]
theorem od_iss (neg : Bool) : OpD X Y (compareOp (if neg then .IsNot else .Is)) (rIsN neg) := by
  intro pins s σ H x y v u Q0 I rx ry ⟨F, M, d, e, Q, r1, r2, rl, ⟨e1, q⟩, k⟩
  subst e1
  cases r2
  have k1 := k _ _ F M H (Stp.refl rl) (.bl _) q
  rw [← isNon_v r1] at k1
  cases neg with
  | true => exact op_notN pins s σ H _ _ v u Q0 I rx ry ⟨rfl, k1⟩
  | false => exact op_isN pins s σ H _ _ v u Q0 I rx ry ⟨rfl, k1⟩
theorem od_is : OpD X Y (compareOp .Is) (rIsN false) := od_iss false
theorem od_isNot : OpD X Y (compareOp .IsNot) (rIsN true) := od_iss true
end
end DL

/-! DL4: items, slices, built-in calls, methods, what is walked, over data. -/
namespace DL
open PySem PySem.Spec L2
open PyProof.Rows hiding St

section
variable {X : Cx} {Y : KJ X.K} {pos p2 : Pos} {a b e : Expr} {t u : DTE}
/-! ### items -/
def rIxD : RD2
  | .str z, .int i, M, Q => z.length ≤ sizeLine ∧ ∃ c, atI z.cps.toList i = some c ∧ Q (.str ⟨#[c]⟩) M
  | x, .int i, M, Q => ∃ xs d, seqOf M x = some xs ∧ atI xs i = some d ∧ Q d M
  | _, _, _, _ => False
theorem atI_rp {K : PySem.W.Frag} {F : Hp} {vs : List V} {ds : List DL.D} {i : Int} {d : DL.D} (ra : RpAll K F vs ds) (h : atI ds i = some d) : ∃ v, atI vs i = some v ∧ Rp K F v d := by
  unfold atI at h ⊢
  rw [ra.length]
  cases e : ixN ds.length i with
  | none => rw [e] at h; cases h
  | some j =>
    rw [e] at h
    exact ra.get (show ds[j]? = some d from h)
theorem ixd : IxR X (can2 Y rIxD) := by
  intro value slice pins s σ H x y v w Q0 I rx ry ⟨F, M, d, e, Q, r1, r2, rl, q, k⟩ hs
  unfold rIxD at q
  split at q
  · cases r1
    cases r2
    obtain ⟨hz, c, hc, q⟩ := q
    exact ix_str value slice pins s σ H _ _ v w Q0 I rx ry ⟨_, _, c, rfl, rfl, hz, hc, k _ _ F M H (Stp.refl rl) (.str _) q⟩ hs
  · cases r2
    obtain ⟨xs, dd, e1, e2, q⟩ := q
    obtain ⟨p, vs, rfl, h1, ra⟩ := seqOf_rp rl r1 e1
    obtain ⟨vv, h2, rp⟩ := atI_rp ra e2
    have k1 := k vv dd F M H (Stp.refl rl) rp q
    rcases h1 with h1 | h1
    · exact ix_list value slice pins s σ H _ _ v w Q0 I rx ry ⟨p, vs, _, vv, rfl, rfl, h1, h2, k1⟩ hs
    · exact ix_tup value slice pins s σ H _ _ v w Q0 I rx ry ⟨p, vs, _, vv, rfl, rfl, h1, h2, k1⟩ hs
  · exact q.elim
theorem de_ix (ha : DE X Y a t) (hb : DE X Y b u) (hs : PlainIx b := by exact fun _ _ => rfl) : DE X Y (.Subscript a b pos) (dOp rIxD t u) :=
  PE.weak (pe_ix ixd ha hb hs) fun _ _ _ q => can_op q

/-! ### slices -/
abbrev DTO := Rho → Mp → (Option Int → Mp → Prop) → Prop
def canO {K : PySem.W.Frag} (Y : KJ K) (t : DTO) : TO := fun σ H Q0 => ∃ F M ρ Q, RelS K F σ ρ ∧ Rel Y F M H ∧ t ρ M Q ∧ ∀ o F' M' H', Stp Y F M H F' M' H' → Q o M' → Q0 o H'
abbrev DO (X : Cx) (Y : KJ X.K) (e : Option Expr) (t : DTO) : Prop := PO X e (canO Y t)
def dNoPart : DTO := fun _ M Q => Q none M
def dPart (t : DTE) : DTO := fun ρ M Q => t ρ M fun d M1 => ∃ i, d = .int i ∧ Q (some i) M1
theorem do_none : DO X Y none dNoPart := by
  refine ⟨fun pins s σ H Q0 I ⟨F, M, ρ, Q, rs, rl, q, k⟩ => ?_⟩
  exact po_none.run pins s σ H _ I (k none F M H (Stp.refl rl) q)
theorem do_some (h : DE X Y e t) : DO X Y (some e) (dPart t) := by
  refine ⟨fun pins s σ H Q0 I ⟨F, M, ρ, Q, rs, rl, q, k⟩ => ?_⟩
  refine (po_some h).run pins s σ H _ I ⟨F, M, ρ, _, rs, rl, q, fun v d F1 M1 H1 s1 rp ⟨i, e1, q1⟩ => ?_⟩
  subst e1
  cases rp
  exact ⟨i, rfl, k _ F1 M1 H1 s1 q1⟩
def cutD {α : Type} (xs : List α) (lo hi : Option Int) : List α := (xs.drop (HT.sIx xs.length 0 lo)).take (HT.sIx xs.length xs.length hi - HT.sIx xs.length 0 lo)
theorem cut_rp {K : PySem.W.Frag} {F : Hp} {vs : List V} {ds : List DL.D} (ra : RpAll K F vs ds) (lo hi : Option Int) : RpAll K F (cutV vs lo hi) (cutD ds lo hi) := by
  unfold cutV cutD
  rw [ra.length]
  exact (ra.drop _).take _
def rSlD (fz : Bool) : DL.D → Option Int → Option Int → Mp → DK → Prop
  | .str z, lo, hi, M, Q => z.length ≤ sizeLine ∧ Q (.str (L2.cutS z lo hi)) M
  | .tup xs, lo, hi, M, Q => Q (.tup (cutD xs lo hi)) M
  | x, lo, hi, M, Q => ∃ xs, lstOf M x = some xs ∧ newL fz (cutD xs lo hi) M Q
def canSl {K : PySem.W.Frag} (Y : KJ K) (r : DL.D → Option Int → Option Int → Mp → DK → Prop) : V → Option Int → Option Int → Hp → VK → Prop := fun x lo hi H Q0 => ∃ F M d Q, Rp K F x d ∧ Rel Y F M H ∧ r d lo hi M Q ∧
  ∀ v z F' M' H', Stp Y F M H F' M' H' → Rp K F' v z → Q z M' → Q0 v H'
theorem sld (fz : Bool) : SlR X (canSl Y (rSlD fz)) := by
  intro pins s σ H x v vl vu lo hi sl Q0 I rx hs pl pu ⟨F, M, d, Q, r1, rl, q, k⟩
  unfold rSlD at q
  split at q
  · cases r1
    exact sl_str pins s σ H _ v vl vu lo hi sl Q0 I rx hs pl pu ⟨_, rfl, q.1, k _ _ F M H (Stp.refl rl) (.str _) q.2⟩
  · cases r1 with
    | tup sq ra =>
      refine sl_tupA pins s σ H _ v vl vu lo hi sl Q0 I rx hs pl pu ?_
      refine ⟨_, _, rfl, Same.tseq rl.sub sq, fun ⟨h1, h2⟩ => ?_, fun _ p hp => newT_ok rl (cut_rp ra lo hi) q k p hp⟩
      rw [ra.length] at h1 h2
      refine k _ _ F M H (Stp.refl rl) (.tup sq ra) ?_
      unfold cutD at q
      rw [h1, h2] at q
      simpa using q
  · obtain ⟨xs, e1, q⟩ := q
    obtain ⟨p, vs, rfl, h1, ra⟩ := lstOf_rp rl r1 e1
    exact sl_list pins s σ H _ v vl vu lo hi sl Q0 I rx hs pl pu ⟨p, vs, rfl, h1, fun p hp => newL_ok rl (cut_rp ra lo hi) q k p hp⟩
def dSl (fz : Bool) (t : DTE) (l h : DTO) : DTE := fun ρ M Q => t ρ M fun x M1 => l ρ M1 fun lo M2 => h ρ M2 fun hi M3 => rSlD fz x lo hi M3 Q
theorem de_slice (fz : Bool) {lo hi : Option Expr} {l h : DTO} (he : DE X Y e t) (hl : DO X Y lo l) (hh : DO X Y hi h) : DE X Y (.Subscript e (.Slice lo hi none p2) pos) (dSl fz t l h) := by
  refine PE.weak (pe_slice (sld (Y := Y) fz) he hl hh) ?_
  rintro σ H Q0 ⟨F, M, ρ, Q, rs, rl, q, k⟩
  refine ⟨F, M, ρ, _, rs, rl, q, fun v d F1 M1 H1 s1 rp q1 => ?_⟩
  refine ⟨F1, M1, ρ, _, rs.mono s1.same, s1.rel, q1, fun lo F2 M2 H2 s2 q2 => ?_⟩
  refine ⟨F2, M2, ρ, _, (rs.mono s1.same).mono s2.same, s2.rel, q2, fun hi F3 M3 H3 s3 q3 => ?_⟩
  exact ⟨F3, M3, d, Q, (rp.mono s2.same).mono s3.same, s3.rel, q3, fun v z F4 M4 H4 s4 => k v z F4 M4 H4 (((s1.trans s2).trans s3).trans s4)⟩

/-! ### built-in calls -/
abbrev RDL := List DL.D → Mp → DK → Prop
def canL {K : PySem.W.Frag} (Y : KJ K) (r : RDL) : List V → Hp → VK → Prop := fun vs H Q0 => ∃ F M ds Q, RpAll K F vs ds ∧ Rel Y F M H ∧ r ds M Q ∧
  ∀ v z F' M' H', Stp Y F M H F' M' H' → Rp K F' v z → Q z M' → Q0 v H'
abbrev CallD (X : Cx) (Y : KJ X.K) (f : Value) (r : RDL) : Prop := CallR X f (canL Y r)
def dCB (r : RDL) (t : DTA) : DTE := fun ρ M Q => t ρ M fun ds M1 => r ds M1 Q
theorem can_cb {K : PySem.W.Frag} {Y : KJ K} {r : RDL} {ta : DTA} {σ : St} {H : Hp} {Q0 : VK} (h : canE Y (dCB r ta) σ H Q0) : tCB (canL Y r) (canA Y ta) σ H Q0 := by
  obtain ⟨F, M, ρ, Q, rs, rl, q, k⟩ := h
  refine ⟨F, M, ρ, _, rs, rl, q, fun vs ds F1 M1 H1 s1 rp q1 => ?_⟩
  exact ⟨F1, M1, ds, Q, rp, s1.rel, q1, fun v z F2 M2 H2 s2 => k v z F2 M2 H2 (s1.trans s2)⟩
theorem de_b {id : String} {x : Str} {p : Pos} {es : List Expr} {r : RDL} {ta : DTA} (hc : CallD X Y (.builtin id) r) (hm : X.mg x = none) (ha : DA X Y (e :: es) ta) (hv : bootBuiltins x = some (.builtin id) := by decide +kernel) (hg : Gl X x := by rfl)
    (hn : x ≠ "__name__" := by decide) (hdb : (x == ("__debug__" : Str)) = false := by decide)
    (he : starEach (e :: es) X.env = (false, eval e X.env) :: starEach es X.env := by rfl) (hpl : (backTo pos (starEach es X.env)).any (·.1) = false := by rfl) : DE X Y (.Call (.Name x p) (e :: es) [] pos) (dCB r ta) :=
  PE.weak (pe_callB hc hg hm hv ha hn hdb he hpl) fun _ _ _ q => can_cb q
theorem de_bT {T : String} {x : Str} {p : Pos} {es : List Expr} {r : RDL} {ta : DTA} (hc : CallD X Y (.type T) r) (hm : X.mg x = none) (ha : DA X Y (e :: es) ta) (hv : bootBuiltins x = some (.type T) := by decide +kernel) (hg : Gl X x := by rfl)
    (hn : x ≠ "__name__" := by decide) (hdb : (x == ("__debug__" : Str)) = false := by decide)
    (he : starEach (e :: es) X.env = (false, eval e X.env) :: starEach es X.env := by rfl) (hpl : (backTo pos (starEach es X.env)).any (·.1) = false := by rfl) : DE X Y (.Call (.Name x p) (e :: es) [] pos) (dCB r ta) :=
  PE.weak (pe_callTy hc hg hm hv ha hn hdb he hpl) fun _ _ _ q => can_cb q
theorem rp1 {K : PySem.W.Frag} {F : Hp} {vs : List V} {d : DL.D} (h : RpAll K F vs [d]) : ∃ v, vs = [v] ∧ Rp K F v d := by
  cases h with
  | cons r t => cases t; exact ⟨_, rfl, r⟩
theorem rp2 {K : PySem.W.Frag} {F : Hp} {vs : List V} {d d' : DL.D} (h : RpAll K F vs [d, d']) : ∃ v v', vs = [v, v'] ∧ Rp K F v d ∧ Rp K F v' d' := by
  cases h with
  | cons r t =>
    obtain ⟨v, e, r'⟩ := rp1 t
    exact ⟨_, v, by rw [e], r, r'⟩
theorem rp_map {K : PySem.W.Frag} {F : Hp} {α : Type} {f : α → DL.D} {g : α → V} (h : ∀ v a, Rp K F v (f a) → v = g a) : ∀ {vs : List V} {as : List α}, RpAll K F vs (as.map f) → vs = as.map g
  | _, [], .nil => rfl
  | _, a :: as, .cons r t => by rw [List.map_cons, h _ a r, rp_map h t]
theorem rp_ints {K : PySem.W.Frag} {F : Hp} {vs : List V} {ns : List Int} (h : RpAll K F vs (ns.map D.int)) : vs = ns.map V.int := rp_map (fun v a r => by cases r; rfl) h
theorem rp_strs {K : PySem.W.Frag} {F : Hp} {vs : List V} {ns : List Str} (h : RpAll K F vs (ns.map D.str)) : vs = ns.map V.str := rp_map (fun v a r => by cases r; rfl) h
theorem rp_bls {K : PySem.W.Frag} {F : Hp} {vs : List V} {ns : List Bool} (h : RpAll K F vs (ns.map D.bl)) : vs = ns.map V.bl := rp_map (fun v a r => by cases r; rfl) h
theorem of_ints {K : PySem.W.Frag} {F : Hp} : ∀ ns : List Int, RpAll K F (ns.map V.int) (ns.map D.int)
  | [] => .nil
  | n :: ns => .cons (.int n) (of_ints ns)
theorem of_strs {K : PySem.W.Frag} {F : Hp} : ∀ ns : List Str, RpAll K F (ns.map V.str) (ns.map D.str)
  | [] => .nil
  | n :: ns => .cons (.str n) (of_strs ns)
def rLen : RDL
  | [.str x], M, Q => x.length ≤ sizeLine ∧ Q (.int x.length) M
  | [d], M, Q => ∃ xs, seqOf M d = some xs ∧ Q (.int xs.length) M
  | _, _, _ => False
theorem cd_len : CallD X Y (.builtin "len") rLen := by
  intro pins s σ H vs us Q0 I r ⟨F, M, ds, Q, rp, rl, q, k⟩
  unfold rLen at q
  split at q
  · obtain ⟨v, rfl, r1⟩ := rp1 rp
    cases r1
    exact call_len pins s σ H _ us Q0 I r ⟨_, _, rfl, ⟨q.1, rfl⟩, k _ _ F M H (Stp.refl rl) (.int _) q.2⟩
  · obtain ⟨v, rfl, r1⟩ := rp1 rp
    obtain ⟨xs, e1, q⟩ := q
    obtain ⟨p, ws, rfl, h1, ra⟩ := seqOf_rp rl r1 e1
    refine call_len_seq pins s σ H _ us Q0 I r ⟨p, ws, rfl, h1, ?_⟩
    rw [ra.length]
    exact k _ _ F M H (Stp.refl rl) (.int _) q
  · exact q.elim
def rAllD : RDL := fun ds M Q => ∃ (d : DL.D) (bs : List Bool), ds = [d] ∧ lstOf M d = some (bs.map D.bl) ∧ Q (.bl (bs.all id)) M
def rAnyD : RDL := fun ds M Q => ∃ (d : DL.D) (bs : List Bool), ds = [d] ∧ lstOf M d = some (bs.map D.bl) ∧ Q (.bl (bs.any id)) M
theorem cd_all (hc : X.calm = true) : CallD X Y (.builtin "all") rAllD := by
  intro pins s σ H vs us Q0 I r ⟨F, M, ds, Q, rp, rl, ⟨d, bs, e, e1, q⟩, k⟩
  subst e
  obtain ⟨v, rfl, r1⟩ := rp1 rp
  obtain ⟨p, ws, rfl, h1, ra⟩ := lstOf_rp rl r1 e1
  rw [rp_bls ra] at h1
  exact cr_all hc pins s σ H _ us Q0 I r ⟨p, bs, rfl, h1, k _ _ F M H (Stp.refl rl) (.bl _) q⟩
theorem cd_any (hc : X.calm = true) : CallD X Y (.builtin "any") rAnyD := by
  intro pins s σ H vs us Q0 I r ⟨F, M, ds, Q, rp, rl, ⟨d, bs, e, e1, q⟩, k⟩
  subst e
  obtain ⟨v, rfl, r1⟩ := rp1 rp
  obtain ⟨p, ws, rfl, h1, ra⟩ := lstOf_rp rl r1 e1
  rw [rp_bls ra] at h1
  exact cr_any hc pins s σ H _ us Q0 I r ⟨p, bs, rfl, h1, k _ _ F M H (Stp.refl rl) (.bl _) q⟩
def rSumD : RDL := fun ds M Q => ∃ (d : DL.D) (ns : List Int), ds = [d] ∧ lstOf M d = some (ns.map D.int) ∧ Q (.int ns.sum) M
theorem cd_sum (hc : X.calm = true) : CallD X Y (.builtin "sum") rSumD := by
  intro pins s σ H vs us Q0 I r ⟨F, M, ds, Q, rp, rl, ⟨d, ns, e, e1, q⟩, k⟩
  subst e
  obtain ⟨v, rfl, r1⟩ := rp1 rp
  obtain ⟨p, ws, rfl, h1, ra⟩ := lstOf_rp rl r1 e1
  rw [rp_ints ra] at h1
  exact cr_sum hc pins s σ H _ us Q0 I r ⟨p, ns, rfl, h1, k _ _ F M H (Stp.refl rl) (.int _) q⟩
def rAbsD : RDL := fun ds M Q => ∃ i, ds = [.int i] ∧ Q (.int (if i < 0 then -i else i)) M
theorem cd_abs : CallD X Y (.builtin "abs") rAbsD := by
  intro pins s σ H vs us Q0 I r ⟨F, M, ds, Q, rp, rl, ⟨i, e, q⟩, k⟩
  subst e
  obtain ⟨v, rfl, r1⟩ := rp1 rp
  cases r1
  exact call_abs pins s σ H _ us Q0 I r ⟨_, rfl, k _ _ F M H (Stp.refl rl) (.int _) q⟩
def rMax2D : RDL := fun ds M Q => ∃ i j, ds = [.int i, .int j] ∧ Q (.int (if j > i then j else i)) M
def rMin2D : RDL := fun ds M Q => ∃ i j, ds = [.int i, .int j] ∧ Q (.int (if j < i then j else i)) M
theorem cd_max2 (hc : X.calm = true) : CallD X Y (.builtin "max") rMax2D := by
  intro pins s σ H vs us Q0 I r ⟨F, M, ds, Q, rp, rl, ⟨i, j, e, q⟩, k⟩
  subst e
  obtain ⟨v, v', rfl, r1, r2⟩ := rp2 rp
  cases r1
  cases r2
  exact call_max2 hc pins s σ H _ us Q0 I r ⟨_, _, rfl, k _ _ F M H (Stp.refl rl) (.int _) q⟩
theorem cd_min2 (hc : X.calm = true) : CallD X Y (.builtin "min") rMin2D := by
  intro pins s σ H vs us Q0 I r ⟨F, M, ds, Q, rp, rl, ⟨i, j, e, q⟩, k⟩
  subst e
  obtain ⟨v, v', rfl, r1, r2⟩ := rp2 rp
  cases r1
  cases r2
  exact call_min2 hc pins s σ H _ us Q0 I r ⟨_, _, rfl, k _ _ F M H (Stp.refl rl) (.int _) q⟩
def rIntD : RDL
  | [.int i], M, Q => Q (.int i) M
  | [.bl b], M, Q => Q (.int (if b = true then 1 else 0)) M
  | _, _, _ => False
theorem cd_int : CallD X Y (.type "int") rIntD := by
  intro pins s σ H vs us Q0 I r ⟨F, M, ds, Q, rp, rl, q, k⟩
  unfold rIntD at q
  split at q
  · obtain ⟨v, rfl, r1⟩ := rp1 rp
    cases r1
    exact call_int1 pins s σ H _ us Q0 I r (.inl ⟨_, rfl, k _ _ F M H (Stp.refl rl) (.int _) q⟩)
  · obtain ⟨v, rfl, r1⟩ := rp1 rp
    cases r1
    exact call_int1 pins s σ H _ us Q0 I r (.inr ⟨_, rfl, k _ _ F M H (Stp.refl rl) (.int _) q⟩)
  · exact q.elim
def rStrD : RDL := fun ds M Q => ∃ i, ds = [.int i] ∧ i.natAbs.log2 < 1920 ∧ Q (.str (toString i)) M
theorem cd_str : CallD X Y (.type "str") rStrD := by
  intro pins s σ H vs us Q0 I r ⟨F, M, ds, Q, rp, rl, ⟨i, e, h1, q⟩, k⟩
  subst e
  obtain ⟨v, rfl, r1⟩ := rp1 rp
  cases r1
  exact call_str_int pins s σ H _ us Q0 I r ⟨_, rfl, h1, k _ _ F M H (Stp.refl rl) (.str _) q⟩
/-- list(a list or a tuple) -/
def rListD (fz : Bool) : RDL := fun ds M Q => ∃ d xs, ds = [d] ∧ seqOf M d = some xs ∧ newL fz xs M Q
theorem cd_list (fz : Bool) : CallD X Y (.type "list") (rListD fz) := by
  intro pins s σ H vs us Q0 I r ⟨F, M, ds, Q, rp, rl, ⟨d, xs, e, e1, q⟩, k⟩
  subst e
  obtain ⟨v, rfl, r1⟩ := rp1 rp
  obtain ⟨p, ws, rfl, h1, ra⟩ := seqOf_rp rl r1 e1
  exact call_list_of pins s σ H _ us Q0 I r ⟨p, ws, rfl, h1, fun l hl => newL_ok rl ra q k l hl⟩
/-- isinstance(x, a built-in class) -/
def tyD (M : Mp) : DL.D → Option String
  | .non => some "NoneType"
  | .bl _ => some "bool"
  | .int _ => some "int"
  | .str _ => some "str"
  | .tup _ => some "tuple"
  | .lst _ => some "list"
  | .slst _ => some "list"
  | .dct _ _ => some "dict"
  | .exc _ _ => none
  | .ref a => match mol (M a) with
    | some _ => some "list"
    | none => none
theorem tyD_x {K : PySem.W.Frag} {Y : KJ K} {F : Hp} {M : Mp} {H : Hp} {v : V} {d : DL.D} {T : String} (R : Rel Y F M H) (r : Rp K F v d) (h : tyD M d = some T) : TyX K H v (.type T) := by
  cases r with
  | non => cases h; exact .base .non
  | bl b => cases h; exact .base (.bl b)
  | int b => cases h; exact .base (.int b)
  | str b => cases h; exact .base (.str b)
  | tup sq ra =>
    cases h
    rcases Same.tseq R.sub sq with (e | ⟨o, e⟩) | ⟨o, its, n, e, c, _⟩
    · exact .base (.tup e)
    · exact .fTuple e
    · exact .kTuple e c
  | lst e ra => cases h; exact .base (.lst (R.sub _ _ e))
  | slst sq ra =>
    cases h
    rcases R.sub.seq sq with (e | ⟨o, e⟩) | ⟨o, its, n, e, c, _⟩
    · exact .base (.lst e)
    · exact .base (.frz e)
    · exact .kList e c
  | dct e l ra => cases h; exact .base (.dK (R.sub _ _ e))
  | exc _ _ _ _ => cases h
  | ref a =>
    have h' : (match mol (M a) with | some _ => some "list" | none => none) = some T := h
    split at h'
    · rename_i xs e
      cases h'
      obtain ⟨vs, h1, _⟩ := R.lst (mol_some e)
      exact .base (.lst h1)
    · cases h'
end
end DL

/-! DL5: isinstance, what is walked, methods. -/
namespace DL
open PySem PySem.Spec L2
open PyProof.Rows hiding St

/-! ### isinstance -/
def isiB (S T : String) : Bool := S == T || (S == "bool" && T == "int")
def dIsi (T : String) (t : DTE) : DTE := fun ρ M Q => t ρ M fun d M1 => ∃ S, tyD M1 d = some S ∧ Q (.bl (isiB S T)) M1
theorem tyD_mem {M : Mp} {d : DL.D} {S : String} (h : tyD M d = some S) : S = "NoneType" ∨ S = "bool" ∨ S = "int" ∨ S = "str" ∨ S = "tuple" ∨ S = "list" ∨ S = "dict" := by
  cases d with
  | ref a =>
    have h' : (match mol (M a) with | some _ => some "list" | none => none) = some S := h
    split at h'
    · cases h'; simp
    · cases h'
  | exc a b => cases h
  | _ => cases h; simp
theorem kit_all {T : String} (hT : T = "bool" ∨ T = "int" ∨ T = "str" ∨ T = "tuple" ∨ T = "list" ∨ T = "dict") {S : String} (hS : S = "NoneType" ∨ S = "bool" ∨ S = "int" ∨ S = "str" ∨ S = "tuple" ∨ S = "list" ∨ S = "dict") : L2.kitB S T = some (isiB S T) := by
  rcases hT with rfl | rfl | rfl | rfl | rfl | rfl <;> rcases hS with rfl | rfl | rfl | rfl | rfl | rfl | rfl <;> decide +kernel
section
variable {X : Cx} {Y : KJ X.K} {pos p p' : Pos} {e : Expr} {t : DTE}
theorem de_isi {T : String} {y : Str} (m1 : X.mg "isinstance" = none) (m2 : X.mg y = none) (he : DE X Y e t) (hT : T = "bool" ∨ T = "int" ∨ T = "str" ∨ T = "tuple" ∨ T = "list" ∨ T = "dict" := by simp) (hv : bootBuiltins y = some (.type T) := by decide +kernel)
    (hg : Gl X "isinstance" := by rfl) (hg2 : Gl X y := by rfl) (hn : y ≠ "__name__" := by decide) (hd : (y == ("__debug__" : Str)) = false := by decide)
    (s1 : starEach [e, .Name y p'] X.env = (false, eval e X.env) :: starEach [.Name y p'] X.env := by rfl) (s2 : starEach [.Name y p'] X.env = (false, eval (.Name y p') X.env) :: starEach [] X.env := by rfl)
    (hpl : (backTo pos (starEach [.Name y p'] X.env)).any (·.1) = false := by rfl) : DE X Y (.Call (.Name "isinstance" p) [e, .Name y p'] [] pos) (dIsi T t) := by
  have h2 : PE X (.Name y p') (tC (.ty T)) := pe_bltn hg2 m2 hv rfl hn hd
  refine PE.weak (pe_callB call_isi hg m1 (by decide +kernel) (pa_cons he (pa_cons h2 pa_nil s2) s1) (by decide) (by decide) s1 hpl) ?_
  rintro σ H Q0 ⟨F, M, ρ, Q, rs, rl, q, k⟩
  refine ⟨F, M, ρ, _, rs, rl, q, fun v d F1 M1 H1 s1 rp ⟨S, eS, q1⟩ => ?_⟩
  exact ⟨v, .ty T, _, .type T, _, rfl, .ty T, tyD_x s1.rel rp eS, kit_ty (kit_all hT (tyD_mem eS)), k _ _ F1 M1 H1 s1 (.bl _) q1⟩
end

/-! ### what is walked -/
section
variable {X : Cx} {Y : KJ X.K} {pos p : Pos} {tg e : Expr} {t : DTE}
theorem PI.or {u v : TI} (h1 : PI X tg e u) (h2 : PI X tg e v) : PI X tg e (fun σ H R => u σ H R ∨ v σ H R) :=
  ⟨fun pins s σ H R I q => q.elim (fun q => h1.run pins s σ H R I q) fun q => h2.run pins s σ H R I q⟩
/-- the signs of a text -/
def signs (x : Str) : List DL.D := x.cps.toList.map fun c => .str ⟨#[c]⟩
theorem jw_list {K : PySem.W.Frag} {Y : KJ K} {F : Hp} {a : Addr} {ds : List DL.D} {G : Mp → Prop} (st : ∀ F1 M1 H1, Same F F1 → Rel Y F1 M1 H1 → G M1 → ∃ xs, SqL K H1 a xs ∧ RpAll K F1 xs ds) : JW Y F (Itl K a) ds G := by
  refine ⟨fun F1 M1 H1 s r g => ?_⟩
  obtain ⟨xs, sq, ra⟩ := st F1 M1 H1 s r g
  have W := walk_list (K := K) (a := a) (xs := xs)
  refine ⟨by rw [← ra.length]; exact W.stops H1 sq, fun i d hi => ?_⟩
  obtain ⟨v, hv, rp⟩ := ra.get hi
  have hl : i < xs.length := (List.getElem?_eq_some_iff.mp hv).1
  refine ⟨W.goes i H1 hl sq, fun x H2 y => ?_⟩
  obtain ⟨e, y2⟩ := W.yields i H1 x H2 hl sq y
  rw [hv] at y2
  cases y2
  rw [e]
  exact ⟨F1, Stp.refl r, rp⟩
theorem jw_tup {K : PySem.W.Frag} {Y : KJ K} {F : Hp} {a : Addr} {xs : List V} {ds : List DL.D} (ra : RpAll K F xs ds) (sq : SqT K F a xs) : JW Y F (Itt K a) ds (fun _ => True) := by
  refine ⟨fun F1 M1 H1 s r g => ?_⟩
  have sq' := Same.tseq (s.trans r.sub) sq
  have W := walk_tup (K := K) (a := a) (xs := xs)
  refine ⟨by rw [← ra.length]; exact W.stops H1 sq', fun i d hi => ?_⟩
  obtain ⟨v, hv, rp⟩ := ra.get hi
  have hl : i < xs.length := (List.getElem?_eq_some_iff.mp hv).1
  refine ⟨W.goes i H1 hl sq', fun x H2 y => ?_⟩
  obtain ⟨e, y2⟩ := W.yields i H1 x H2 hl sq' y
  rw [hv] at y2
  cases y2
  rw [e]
  exact ⟨F1, Stp.refl r, rp.mono s⟩
theorem jw_str {K : PySem.W.Frag} {Y : KJ K} {F : Hp} {x : Str} : JW Y F (Its x) (signs x) (fun _ => True) :=
  ⟨fun F1 M1 H1 s r g => ⟨by show x.cps.size ≤ (signs x).length; simp [signs], fun i d hi => by
    unfold signs at hi
    rw [List.getElem?_map, Array.getElem?_toList] at hi
    cases e : x.cps[i]? with
    | none => rw [e] at hi; cases hi
    | some c =>
      rw [e] at hi
      cases hi
      refine ⟨(Array.getElem?_eq_some_iff.mp e).1, fun v H2 ⟨e2, c', h', hv⟩ => ?_⟩
      rw [e] at h'
      cases h'
      subst e2 hv
      exact ⟨F1, Stp.refl r, .str _⟩⟩⟩
/-- over a text, a tuple, a list -/
def dIt (t : DTE) : DTI := fun ρ M R => t ρ M fun d M1 => match d with
  | .str x => R (signs x) (fun _ => True) M1
  | .tup xs => R xs (fun _ => True) M1
  | .lst xs => R xs (fun _ => True) M1
  | .slst xs => R xs (fun _ => True) M1
  | .ref a => ∃ xs, M1 a = some (.lst xs) ∧ R xs (fun M => M a = some (.lst xs)) M1
  | _ => False
/-- one walk for each kind of a value that is walked -/
theorem pi_any {te : TE} (he : PE X e te) : PI X tg e (fun σ H R => te σ H fun v H1 => (∃ x, v = .str x ∧ R (Its x) H1) ∨ (∃ a, v = .ref a ∧ (∃ xs, SqT X.K H1 a xs) ∧ R (Itt X.K a) H1) ∨ (∃ a, v = .ref a ∧ (∃ xs, SqL X.K H1 a xs) ∧ R (Itl X.K a) H1)) := by
  constructor
  intro pins s σ H R I q
  refine thn (he.run pins s σ H _ I q) ?_
  rintro u s1 ⟨v, H1, I1, r1, ⟨x, rfl, q1⟩ | ⟨a, rfl, ⟨xs, hq⟩, q1⟩ | ⟨a, rfl, ⟨xs, hq⟩, q1⟩⟩
  · obtain ⟨t, rfl⟩ := r1
    cases ha : x.cps.all (· < 128) with
    | false => exact wpAny_pyIter_wide ha (pi_one (tk := s1.toks) I1 _ (turn_str _ x t "str_iterator" (.inr rfl)) ⟨_, Heap.get?_push_size _ rfl, rfl, rfl⟩ q1)
    | true => exact wpAny_pyIter_ascii ha (pi_one (tk := s1.toks) I1 _ (turn_str _ x t "str_ascii_iterator" (.inl rfl)) ⟨_, Heap.get?_push_size _ rfl, rfl, rfl⟩ q1)
  · cases r1
    obtain ⟨its, rv, p, hz⟩ := I1.tuple hq
    exact wpAny_pyIter_tuple (show s1.heap.IsTuple a its.toArray from p) (pi_one (tk := s1.toks) I1 _ (turn_tuple a _) ⟨_, Heap.get?_push_size _ rfl, rfl, rfl⟩ q1)
  · cases r1
    obtain ⟨its, rv, p, hz⟩ := I1.list hq
    exact wpAny_pyIter_list p.isList (pi_one (tk := s1.toks) I1 _ (turn_list a _) ⟨_, Heap.get?_push_size _ rfl, rfl, rfl⟩ q1)
theorem di_it (he : DE X Y e t) : DI X Y tg e (dIt t) := by
  refine PI.weak (pi_any he) ?_
  rintro σ H R0 ⟨F, M, ρ, R, rs, rl, q, k⟩
  refine ⟨F, M, ρ, _, rs, rl, q, fun v d F1 M1 H1 s1 rp q1 => ?_⟩
  cases d with
  | str x =>
    cases rp
    exact .inl ⟨x, rfl, k _ _ _ F1 M1 H1 s1 jw_str q1⟩
  | tup xs =>
    cases rp with
    | tup sq ra => exact .inr (.inl ⟨_, rfl, ⟨_, Same.tseq s1.rel.sub sq⟩, k _ _ _ F1 M1 H1 s1 (jw_tup ra sq) q1⟩)
  | lst xs =>
    cases rp with
    | lst e1 ra => exact .inr (.inr ⟨_, rfl, ⟨_, SqL.of (s1.rel.sub _ _ e1)⟩, k _ _ _ F1 M1 H1 s1 (jw_list fun F2 M2 H2 s r _ => ⟨_, SqL.of (r.sub _ _ (s _ _ e1)), ra.mono s⟩) q1⟩)
  | slst xs =>
    cases rp with
    | slst e1 ra => exact .inr (.inr ⟨_, rfl, ⟨_, s1.rel.sub.seq e1⟩, k _ _ _ F1 M1 H1 s1 (jw_list fun F2 M2 H2 s r _ => ⟨_, (s.trans r.sub).seq e1, ra.mono s⟩) q1⟩)
  | ref a =>
    obtain ⟨xs, hm, q1⟩ := q1
    cases rp
    obtain ⟨vs, h1, ra⟩ := s1.rel.lst hm
    exact .inr (.inr ⟨_, rfl, ⟨_, SqL.of h1⟩, k _ _ _ F1 M1 H1 s1 (jw_list fun F2 M2 H2 s r g => let ⟨ws, h2, rb⟩ := r.lst g; ⟨ws, SqL.of h2, rb⟩) q1⟩)
  | non => exact q1.elim
  | dct a b => exact q1.elim
  | exc a b => exact q1.elim
  | bl b => exact q1.elim
  | int i => exact q1.elim
/-- over range(n), range(a, b) -/
def rgD (lo : Int) (n : Nat) : List DL.D := (List.range n).map fun i => .int (lo + (i : Nat))
theorem jw_range {K : PySem.W.Frag} {Y : KJ K} {F : Hp} {lo : Int} {n : Nat} : JW Y F (Itr lo n) (rgD lo n) (fun _ => True) :=
  ⟨fun F1 M1 H1 s r g => ⟨by show n ≤ (rgD lo n).length; simp [rgD], fun i d hi => by
    unfold rgD at hi
    rw [List.getElem?_map] at hi
    by_cases h : i < n
    · rw [List.getElem?_range h] at hi
      cases hi
      refine ⟨h, fun v H2 ⟨e2, hv⟩ => ?_⟩
      subst e2 hv
      exact ⟨F1, Stp.refl r, .int _⟩
    · rw [List.getElem?_eq_none (by simpa using h)] at hi
      cases hi⟩⟩
def dRange1 (t : DTE) : DTI := fun ρ M R => t ρ M fun d M1 => ∃ j, d = .int j ∧ -(2 ^ 62) ≤ j ∧ j < 2 ^ 62 ∧ R (rgD 0 j.toNat) (fun _ => True) M1
def dRange2 (t u : DTE) : DTI := fun ρ M R => t ρ M fun d M1 => u ρ M1 fun d' M2 => ∃ i j, d = .int i ∧ d' = .int j ∧ (-(2 ^ 62) ≤ i ∧ i < 2 ^ 62 ∧ -(2 ^ 62) ≤ j ∧ j < 2 ^ 62) ∧ R (rgD i (j - i).toNat) (fun _ => True) M2
theorem di_range1 {u : DTE} (hm : X.mg "range" = none) (he : DE X Y e u) (hg : Gl X "range" := by rfl) (hs : starEach [e] X.env = [(false, eval e X.env)] := by rfl) : DI X Y tg (.Call (.Name "range" p) [e] [] pos) (dRange1 u) := by
  refine PI.weak (pi_range1 hg hm (pa_cons he pa_nil hs) hs) ?_
  rintro σ H R0 ⟨F, M, ρ, R, rs, rl, q, k⟩
  refine ⟨F, M, ρ, _, rs, rl, q, fun v d F1 M1 H1 s1 rp ⟨j, ed, h1, h2, q1⟩ => ?_⟩
  subst ed
  cases rp
  exact ⟨j, rfl, h1, h2, k _ _ _ F1 M1 H1 s1 jw_range q1⟩
theorem di_range2 {e2 : Expr} {u u2 : DTE} (hm : X.mg "range" = none) (he : DE X Y e u) (he2 : DE X Y e2 u2) (hg : Gl X "range" := by rfl) (hs : starEach [e, e2] X.env = [(false, eval e X.env), (false, eval e2 X.env)] := by rfl) (hs2 : starEach [e2] X.env = [(false, eval e2 X.env)] := by rfl) :
    DI X Y tg (.Call (.Name "range" p) [e, e2] [] pos) (dRange2 u u2) := by
  refine PI.weak (pi_range2 hg hm (pa_cons he (pa_cons he2 pa_nil hs2) (by rw [hs, hs2])) hs hs2) ?_
  rintro σ H R0 ⟨F, M, ρ, R, rs, rl, q, k⟩
  refine ⟨F, M, ρ, _, rs, rl, q, fun v d F1 M1 H1 s1 rp q1 => ?_⟩
  refine ⟨F1, M1, ρ, _, rs.mono s1.same, s1.rel, q1, fun v2 d2 F2 M2 H2 s2 rp2 ⟨i, j, e1, e2, hb, q2⟩ => ?_⟩
  subst e1 e2
  cases rp
  cases rp2
  exact ⟨i, j, rfl, hb, k _ _ _ F2 M2 H2 (s1.trans s2) jw_range q2⟩
end
end DL

/-! DL6: stores by place, methods of lists and texts, repr, list(range), zip. -/
namespace DL
open PySem PySem.Spec L2
open PyProof.Rows hiding St

/-! ### xs[i] = v -/
def rSetD : DTSet := fun o i v M Q => ∃ a xs k j, o = .ref a ∧ i = .int k ∧ M a = some (.lst xs) ∧ ixN xs.length k = some j ∧ Q (mu M a (.lst (xs.set j v)))
section
variable {X : Cx} {Y : KJ X.K} {pos : Pos}
theorem set_lstD : PSet X (canSet Y rSetD) := by
  refine PSet.weak set_list ?_
  rintro o i v H Q0 ⟨F, M, od, id, vd, Q, r1, r2, r3, rl, ⟨a, xs, k, j, e1, e2, hm, hj, q⟩, kk⟩
  subst e1 e2
  cases r1
  cases r2
  obtain ⟨vs, h1, ra⟩ := rl.lst hm
  exact ⟨a, vs, k, j, rfl, rfl, h1, by rw [ra.length]; exact hj, kk F _ _ (rl.set hm (xs := (vs.set j v)) (ds := (xs.set j vd)) (ra.set r3 j)) q⟩

/-! ### methods of lists -/
def canMt {K : PySem.W.Frag} (Y : KJ K) (r : DL.D → List DL.D → Mp → DK → Prop) : V → List V → Hp → VK → Prop := fun x vs H Q0 => ∃ F M d ds Q, Rp K F x d ∧ RpAll K F vs ds ∧ Rel Y F M H ∧ r d ds M Q ∧
  ∀ v z F' M' H', Stp Y F M H F' M' H' → Rp K F' v z → Q z M' → Q0 v H'
variable {o e : Expr} {es : List Expr} {to : DTE} {ta : DTA} {name : Str} {apos cpos : Pos} {id : String} {r : DL.D → List DL.D → Mp → DK → Prop}
def dBM (r : DL.D → List DL.D → Mp → DK → Prop) (to : DTE) (ta : DTA) : DTE := fun ρ M Q => to ρ M fun x M1 => (lstOf M1 x).isSome = true ∧ ta ρ M1 fun ds M2 => r x ds M2 Q
theorem ty_list {K : PySem.W.Frag} {Y : KJ K} {F : Hp} {M : Mp} {H : Hp} {v : V} {d : DL.D} (R : Rel Y F M H) (rp : Rp K F v d) (h : (lstOf M d).isSome = true) : tyV K "list" v H := by
  obtain ⟨ds, e⟩ := Option.isSome_iff_exists.mp h
  obtain ⟨a, xs, rfl, h1, _⟩ := lstOf_rp R rp e
  exact .inl ⟨rfl, _, h1⟩
theorem de_bm (slot : Slot "list" name id) (hty : typeOf (.builtin id) = pure (.type "method_descriptor")) (hm : MtR X id (canMt Y r)) (ho : DE X Y o to) (ha : DA X Y (e :: es) ta)
    (hbase : attributeBase o name X.env (eval o X.env) = eval o X.env := by rfl)
    (hfew : ((backTo cpos (starEach (e :: es) X.env)).all (fun x => !x.1) && (backToKw cpos (keywordEach [] X.env)).all (fun x => x.1.isSome)
      && decide ((e :: es).length + ([] : List Keyword).length + (if ([] : List Keyword).isEmpty then 0 else 1) < 30)) = true := by rfl)
    (hline : (apos.endLine == cpos.line) = true := by rfl) (hs : starEach (e :: es) X.env = (false, eval e X.env) :: starEach es X.env := by rfl) (hplain : (backTo cpos (starEach es X.env)).any (·.1) = false := by rfl) :
    DE X Y (.Call (.Attribute o name apos) (e :: es) [] cpos) (dBM r to ta) := by
  refine PE.weak (pe_bm PySem.F.plainAttrs_list slot hty hm ho ha hbase hfew hline hs hplain) ?_
  rintro σ H Q0 ⟨F, M, ρ, Q, rs, rl, q, k⟩
  refine ⟨F, M, ρ, _, rs, rl, q, fun v d F1 M1 H1 s1 rp1 ⟨hl, q1⟩ => ⟨ty_list s1.rel rp1 hl, ?_⟩⟩
  exact ⟨F1, M1, ρ, _, rs.mono s1.same, s1.rel, q1, fun vs ds F2 M2 H2 s2 rp2 q2 => ⟨F2, M2, d, ds, Q, rp1.mono s2.same, rp2, s2.rel, q2, fun v z F3 M3 H3 s3 => k v z F3 M3 H3 ((s1.trans s2).trans s3)⟩⟩
def dBM0 (r : DL.D → List DL.D → Mp → DK → Prop) (to : DTE) : DTE := fun ρ M Q => to ρ M fun x M1 => (lstOf M1 x).isSome = true ∧ r x [] M1 Q
theorem de_bm0 (slot : Slot "list" name id) (hty : typeOf (.builtin id) = pure (.type "method_descriptor")) (hm : MtR X id (canMt Y r)) (ho : DE X Y o to)
    (hbase : attributeBase o name X.env (eval o X.env) = eval o X.env := by rfl) (hline : (apos.endLine == cpos.line) = true := by rfl) : DE X Y (.Call (.Attribute o name apos) [] [] cpos) (dBM0 r to) := by
  refine PE.weak (pe_bm0 PySem.F.plainAttrs_list slot hty hm ho hbase hline) ?_
  rintro σ H Q0 ⟨F, M, ρ, Q, rs, rl, q, k⟩
  exact ⟨F, M, ρ, _, rs, rl, q, fun v d F1 M1 H1 s1 rp1 ⟨hl, q1⟩ => ⟨ty_list s1.rel rp1 hl, F1, M1, d, [], Q, rp1, .nil, s1.rel, q1, fun v z F3 M3 H3 s3 => k v z F3 M3 H3 (s1.trans s3)⟩⟩
theorem of_MtM {id : String} {r : V → List V → Hp → VK → Prop} (h : MtM X id r) : MtR X id r := h
def rAppD : DL.D → List DL.D → Mp → DK → Prop := fun x ds M Q => ∃ a y xs, x = .ref a ∧ ds = [y] ∧ M a = some (.lst xs) ∧ xs.length < sizeLine ∧ Q .non (mu M a (.lst (xs ++ [y])))
theorem md_append : MtR X "list.append" (canMt Y rAppD) := by
  intro pins s σ H x vs v us Q0 I rx rv ⟨F, M, d, ds, Q, r1, r2, rl, ⟨a, y, xs, e1, e2, hm, hz, q⟩, k⟩
  subst e1 e2
  cases r1
  obtain ⟨vy, rfl, ry⟩ := rp1 r2
  obtain ⟨ws, h1, ra⟩ := rl.lst hm
  exact mt_append pins s σ H _ _ v us Q0 I rx rv ⟨a, ws, vy, rfl, rfl, h1, by rw [ra.length]; exact hz, k _ .non F _ _ (rl.set hm (xs := (ws ++ [vy])) (ds := (xs ++ [y])) (ra.append (.cons ry .nil))) .non q⟩
def dAppend (to te : DTE) : DTE := dBM rAppD to (dCons te dNil)
theorem de_append {te : DTE} (ho : DE X Y o to) (he : DE X Y e te) (hs : starEach [e] X.env = (false, eval e X.env) :: starEach [] X.env := by rfl) (hbase : attributeBase o "append" X.env (eval o X.env) = eval o X.env := by rfl) (hline : (apos.endLine == cpos.line) = true := by rfl)
    (hfew : ((backTo cpos (starEach [e] X.env)).all (fun x => !x.1) && (backToKw cpos (keywordEach [] X.env)).all (fun x => x.1.isSome)
      && decide (([e] : List Expr).length + ([] : List Keyword).length + (if ([] : List Keyword).isEmpty then 0 else 1) < 30)) = true := by rfl) :
    DE X Y (.Call (.Attribute o "append" apos) [e] [] cpos) (dAppend to te) :=
  de_bm PySem.F.slot_list_append PySem.F.type_list_append md_append ho (da_cons he da_nil hs) hbase hfew hline hs rfl
def rExtD : DL.D → List DL.D → Mp → DK → Prop := fun x ds M Q => ∃ a y xs ys, x = .ref a ∧ ds = [y] ∧ M a = some (.lst xs) ∧ lstIn M y = some ys ∧ xs.length + ys.length ≤ sizeLine ∧ Q .non (mu M a (.lst (xs ++ ys)))
theorem md_extend : MtR X "list.extend" (canMt Y rExtD) := by
  intro pins s σ H x vs v us Q0 I rx rv ⟨F, M, d, ds, Q, r1, r2, rl, ⟨a, y, xs, ys, e1, e2, hm, hy, hz, q⟩, k⟩
  subst e1 e2
  cases r1
  obtain ⟨vy, rfl, ry⟩ := rp1 r2
  obtain ⟨ws, h1, ra⟩ := rl.lst hm
  obtain ⟨b, zs, rfl, h2, rb⟩ := lstIn_rp rl ry hy
  exact mt_extend pins s σ H _ _ v us Q0 I rx rv ⟨a, b, ws, zs, rfl, rfl, h1, h2, by rw [ra.length, rb.length]; exact hz, k _ .non F _ _ (rl.set hm (xs := (ws ++ zs)) (ds := (xs ++ ys)) (ra.append rb)) .non q⟩
def dExtend (to te : DTE) : DTE := dBM rExtD to (dCons te dNil)
theorem de_extend {te : DTE} (ho : DE X Y o to) (he : DE X Y e te) (hs : starEach [e] X.env = (false, eval e X.env) :: starEach [] X.env := by rfl) (hbase : attributeBase o "extend" X.env (eval o X.env) = eval o X.env := by rfl) (hline : (apos.endLine == cpos.line) = true := by rfl)
    (hfew : ((backTo cpos (starEach [e] X.env)).all (fun x => !x.1) && (backToKw cpos (keywordEach [] X.env)).all (fun x => x.1.isSome)
      && decide (([e] : List Expr).length + ([] : List Keyword).length + (if ([] : List Keyword).isEmpty then 0 else 1) < 30)) = true := by rfl) :
    DE X Y (.Call (.Attribute o "extend" apos) [e] [] cpos) (dExtend to te) :=
  de_bm PySem.F.slot_list_extend PySem.F.type_list_extend md_extend ho (da_cons he da_nil hs) hbase hfew hline hs rfl
def rPopD : DL.D → List DL.D → Mp → DK → Prop := fun x ds M Q => ∃ a xs y, x = .ref a ∧ ds = [] ∧ M a = some (.lst xs) ∧ xs[xs.length - 1]? = some y ∧ Q y (mu M a (.lst xs.dropLast))
theorem md_pop : MtR X "list.pop" (canMt Y rPopD) := by
  intro pins s σ H x vs v us Q0 I rx rv ⟨F, M, d, ds, Q, r1, r2, rl, ⟨a, xs, y, e1, e2, hm, hy, q⟩, k⟩
  subst e1 e2
  cases r1
  cases r2
  obtain ⟨ws, h1, ra⟩ := rl.lst hm
  obtain ⟨vy, h2, ry⟩ := ra.get hy
  have st := rl.set hm (xs := ws.dropLast) (ds := xs.dropLast) ra.dropLast
  exact mt_pop pins s σ H _ _ v us Q0 I rx rv ⟨a, ws, vy, rfl, rfl, h1, by rw [ra.length]; exact h2, k _ y F _ _ st ry q⟩
def dPop (to : DTE) : DTE := dBM0 rPopD to
theorem de_pop (ho : DE X Y o to) (hbase : attributeBase o "pop" X.env (eval o X.env) = eval o X.env := by rfl) (hline : (apos.endLine == cpos.line) = true := by rfl) : DE X Y (.Call (.Attribute o "pop" apos) [] [] cpos) (dPop to) :=
  de_bm0 PySem.F.slot_list_pop PySem.F.type_list_pop md_pop ho hbase hline
def rPopAtD : DL.D → List DL.D → Mp → DK → Prop := fun x ds M Q => ∃ a xs i j y, x = .ref a ∧ ds = [.int i] ∧ M a = some (.lst xs) ∧ ixN xs.length i = some j ∧ -(2 ^ 62) < i ∧ i < 2 ^ 62 ∧ xs[j]? = some y ∧ Q y (mu M a (.lst (xs.eraseIdx j)))
theorem md_popAt : MtR X "list.pop" (canMt Y rPopAtD) := by
  intro pins s σ H x vs v us Q0 I rx rv ⟨F, M, d, ds, Q, r1, r2, rl, ⟨a, xs, i, j, y, e1, e2, hm, hj, h3, h4, hy, q⟩, k⟩
  subst e1 e2
  cases r1
  obtain ⟨vi, rfl, ri⟩ := rp1 r2
  cases ri
  obtain ⟨ws, h1, ra⟩ := rl.lst hm
  obtain ⟨vy, h2, ry⟩ := ra.get hy
  have st := rl.set hm (xs := (ws.eraseIdx j)) (ds := (xs.eraseIdx j)) (ra.eraseIdx j)
  have hj' := ixN_seq hj
  exact mt_popAt pins s σ H _ _ v us Q0 I rx rv ⟨a, ws, i, j, vy, rfl, rfl, h1, by omega, by omega, by rw [ra.length]; exact hj'.1, h2, k _ y F _ _ st ry q⟩
def dPopAt (to te : DTE) : DTE := dBM rPopAtD to (dCons te dNil)
theorem de_popAt {te : DTE} (ho : DE X Y o to) (he : DE X Y e te) (hs : starEach [e] X.env = (false, eval e X.env) :: starEach [] X.env := by rfl) (hbase : attributeBase o "pop" X.env (eval o X.env) = eval o X.env := by rfl) (hline : (apos.endLine == cpos.line) = true := by rfl)
    (hfew : ((backTo cpos (starEach [e] X.env)).all (fun x => !x.1) && (backToKw cpos (keywordEach [] X.env)).all (fun x => x.1.isSome)
      && decide (([e] : List Expr).length + ([] : List Keyword).length + (if ([] : List Keyword).isEmpty then 0 else 1) < 30)) = true := by rfl) :
    DE X Y (.Call (.Attribute o "pop" apos) [e] [] cpos) (dPopAt to te) :=
  de_bm PySem.F.slot_list_pop PySem.F.type_list_pop md_popAt ho (da_cons he da_nil hs) hbase hfew hline hs rfl

/-! ### texts' methods, -x, ** -/
def dUpper (to : DTE) : DTE := fun ρ M Q => to ρ M fun x M1 => ∃ a, x = .str a ∧ a.length ≤ 5592405 ∧ Q (.str (Txt.upper a)) M1
theorem de_upper (ho : DE X Y o to) (hbase : attributeBase o "upper" X.env (eval o X.env) = eval o X.env := by rfl) (hline : (apos.endLine == cpos.line) = true := by rfl) : DE X Y (.Call (.Attribute o "upper" apos) [] [] cpos) (dUpper to) := by
  refine PE.weak (pe_upper ho hbase hline) ?_
  rintro σ H Q0 ⟨F, M, ρ, Q, rs, rl, q, k⟩
  refine ⟨F, M, ρ, _, rs, rl, q, fun v d F1 M1 H1 s1 rp1 ⟨a, e1, hl, q1⟩ => ?_⟩
  subst e1
  cases rp1
  exact ⟨⟨a, rfl⟩, a, rfl, rfl, hl, k _ _ F1 M1 H1 s1 (.str _) q1⟩
def dJoin (to te : DTE) : DTE := fun ρ M Q => to ρ M fun x M1 => ∃ a, x = .str a ∧ te ρ M1 fun y M2 => ∃ ss : List Str, seqOf M2 y = some (ss.map D.str) ∧ (ss.map (·.length)).sum + ss.length * a.length ≤ 16777216 ∧ Q (.str (Txt.join a ss)) M2
theorem de_join {te : DTE} (ho : DE X Y o to) (he : DE X Y e te) (hs : starEach [e] X.env = [(false, eval e X.env)] := by rfl) (hbase : attributeBase o "join" X.env (eval o X.env) = eval o X.env := by rfl) (hline : (apos.endLine == cpos.line) = true := by rfl) :
    DE X Y (.Call (.Attribute o "join" apos) [e] [] cpos) (dJoin to te) := by
  refine PE.weak (pe_join ho he hs hbase hline) ?_
  rintro σ H Q0 ⟨F, M, ρ, Q, rs, rl, q, k⟩
  refine ⟨F, M, ρ, _, rs, rl, q, fun v d F1 M1 H1 s1 rp1 ⟨a, e1, q1⟩ => ?_⟩
  subst e1
  cases rp1
  refine ⟨⟨a, rfl⟩, F1, M1, ρ, _, rs.mono s1.same, s1.rel, q1, fun v2 d2 F2 M2 H2 s2 rp2 ⟨ss, e2, hz, q2⟩ => ?_⟩
  obtain ⟨p, ws, rfl, h1, ra⟩ := seqOf_rp s2.rel rp2 e2
  rw [rp_strs ra] at h1
  exact ⟨a, p, ss, rfl, rfl, h1, hz, k _ _ F2 M2 H2 (s1.trans s2) (.str _) q2⟩
def dNeg (te : DTE) : DTE := fun ρ M Q => te ρ M fun x M1 => ∃ i, x = .int i ∧ Q (.int (-i)) M1
theorem de_neg {te : DTE} (he : DE X Y e te) : DE X Y (.UnaryOp .USub e pos) (dNeg te) := by
  refine PE.weak (pe_un un_neg he) ?_
  rintro σ H Q0 ⟨F, M, ρ, Q, rs, rl, q, k⟩
  refine ⟨F, M, ρ, _, rs, rl, q, fun v d F1 M1 H1 s1 rp1 ⟨i, e1, q1⟩ => ?_⟩
  subst e1
  cases rp1
  exact ⟨i, rfl, k _ _ F1 M1 H1 s1 (.int _) q1⟩
def rPowD : RD2 := fun x y M Q => ∃ i j, x = .int i ∧ y = .int j ∧ ((0 ≤ j ∧ j ≤ 1000000 ∧ i.natAbs < 2 ^ 64) ∨ (0 ≤ j ∧ (Builtin.Int.intBits i : Int) * j ≤ 2 ^ 27)) ∧ Q (.int (i ^ j.toNat)) M
theorem od_pows : OpD X Y (binaryOp .Pow) rPowD := by
  intro pins s σ H x y v u Q0 I rx ry ⟨F, M, d, e, Q, r1, r2, rl, ⟨i, j, e1, e2, c, q⟩, k⟩
  rcases c with c | c
  · exact od_pow pins s σ H x y v u Q0 I rx ry ⟨F, M, d, e, Q, r1, r2, rl, ⟨i, j, e1, e2, c, q⟩, k⟩
  · exact od_powW pins s σ H x y v u Q0 I rx ry ⟨F, M, d, e, Q, r1, r2, rl, ⟨i, j, e1, e2, c, q⟩, k⟩

/-! ### repr -/
mutual
theorem py_noDict : ∀ (d : DL.D) (p : PyData), d.py = some p → p.hasDict = false
  | .non, _, h => by simp only [D.py] at h; cases h; rfl
  | .bl b, _, h => by simp only [D.py] at h; cases h; rfl
  | .int i, _, h => by simp only [D.py] at h; cases h; rfl
  | .str x, _, h => by simp only [D.py] at h; cases h; rfl
  | .ref a, _, h => by simp only [D.py] at h; cases h
  | .tup xs, _, h => by
    simp only [D.py] at h
    split at h
    · rename_i ps e; cases h; simp only [PyData.hasDict]; exact pyAll_noDict xs ps e
    · cases h
  | .lst xs, _, h => by
    simp only [D.py] at h
    split at h
    · rename_i ps e; cases h; simp only [PyData.hasDict]; exact pyAll_noDict xs ps e
    · cases h
  | .slst xs, _, h => by
    simp only [D.py] at h
    split at h
    · rename_i ps e; cases h; simp only [PyData.hasDict]; exact pyAll_noDict xs ps e
    · cases h
theorem pyAll_noDict : ∀ (ds : List DL.D) (ps : List PyData), pyAll ds = some ps → PyData.hasDictAll ps = false
  | [], _, h => by simp only [pyAll] at h; cases h; rfl
  | d :: ds, _, h => by
    simp only [pyAll] at h
    split at h
    · rename_i p ps e1 e2
      cases h
      simp only [PyData.hasDictAll, py_noDict d p e1, pyAll_noDict ds ps e2, Bool.or_self]
    · cases h
end
theorem pyM_noDict {M : Mp} {d : DL.D} {p : PyData} (h : pyM M d = some p) : p.hasDict = false := by
  unfold pyM at h
  split at h
  · split at h
    · split at h
      · rename_i ps e
        cases h
        simp only [PyData.hasDict]
        exact pyAll_noDict _ _ e
      · cases h
    · cases h
  · exact py_noDict _ _ h
def rReprD : RDL := fun ds M Q => ∃ d p, ds = [d] ∧ pyM M d = some p ∧ p.showable = true ∧ p.depth ≤ 62 ∧ p.shown.length ≤ sizeLine ∧ Q (.str p.shown) M
theorem cd_repr {n : Nat} (hr : Room n X.A) (gu : X.A.guards = some []) : CallD X Y (.builtin "repr") rReprD := by
  intro pins s σ H vs us Q0 I r ⟨F, M, ds, Q, rp, rl, ⟨d, p, e, e1, h1, h2, h3, q⟩, k⟩
  subst e
  obtain ⟨v, rfl, r1⟩ := rp1 rp
  obtain ⟨u, rfl, ru⟩ := vals1 r
  obtain ⟨as, rd⟩ := Dp.reads I p v u (pyM_dp rl r1 e1) ru
  have nd := pyM_noDict e1
  have fin : ∀ (h' : Heap) (t tk : Tok), (∀ b o, s.heap.get? b = some o → h'.get? b = some o) → EP X pins σ Q0 (.str p.shown t) { s with heap := h', toks := tk } :=
    fun h' t tk hk => ⟨.str p.shown, H, I.kept hk, ⟨t, rfl⟩, k _ _ F M H (Stp.refl rl) (.str _) q⟩
  have un := hr.units
  cases rd with
  | none => exact PySem.P.repr_of_none (fin s.heap _ _ fun _ _ z => z)
  | bool b => exact PySem.P.repr_of_bool (fin s.heap _ _ fun _ _ z => z)
  | int i t => exact PySem.P.repr_of_int (by simpa [PyData.showable] using h1) (fin s.heap _ _ fun _ _ z => z)
  | str x t => exact PySem.P.repr_of_str (fin s.heap _ _ fun _ _ z => z) h3
  | list a1 a2 a3 a4 => exact PySem.repr_of_reads' (.list a1 a2 a3 a4) h1 (fun z => by rw [nd] at z; cases z) gu (by omega) (fun _ _ z => z) (fun h' u tk hk => fin h' u tk hk) h3
  | tuple a1 a2 a3 a4 => exact PySem.repr_of_reads' (.tuple a1 a2 a3 a4) h1 (fun z => by rw [nd] at z; cases z) gu (by omega) (fun _ _ z => z) (fun h' u tk hk => fin h' u tk hk) h3
  | dict => simp [PyData.hasDict] at nd
end
end DL

/-! DL7: zip, list(range), list(text). -/
namespace DL
open PySem PySem.Spec L2
open PyProof.Rows hiding St

section
variable {X : Cx} {Y : KJ X.K} {pos p tpos : Pos} {e e2 : Expr} {t u : DTE} {elts : List Expr} {kk : Nat}
/-! ### zip of two lists -/
def pairs (xs ys : List DL.D) : List DL.D := (xs.zip ys).map fun p => .tup [p.1, p.2]
theorem pairs_get {xs ys : List DL.D} {i : Nat} {d : DL.D} (h : (pairs xs ys)[i]? = some d) : ∃ x y, xs[i]? = some x ∧ ys[i]? = some y ∧ d = .tup [x, y] := by
  unfold pairs at h
  rw [List.getElem?_map] at h
  cases e : (xs.zip ys)[i]? with
  | none => rw [e] at h; cases h
  | some q =>
    rw [e] at h
    cases h
    rw [List.getElem?_zip_eq_some] at e
    exact ⟨q.1, q.2, e.1, e.2, rfl⟩
theorem jw_pair {K : PySem.W.Frag} {Y : KJ K} {F F1 : Hp} {M1 : Mp} {H1 H2 : Hp} {x y : V} {d d' : DL.D} {T : Addr} (s : Same F F1) (r : Rel Y F1 M1 H1) (h1 : Rp K F1 x d) (h2 : Rp K F1 y d') (hT : H1 T = none) (e : H2 = upd H1 T (.tup [x, y])) :
    ∃ F2, Stp Y F1 M1 H1 F2 M1 H2 ∧ Rp K F2 (.ref T) (.tup [d, d']) := by
  subst e
  have st := r.newF hT (.tup [x, y])
  exact ⟨_, st, .tup (.inl (.inl upd_same)) (.cons (h1.mono st.same) (.cons (h2.mono st.same) .nil))⟩
def dZipL (t u : DTE) : DTI := fun ρ M R => t ρ M fun d M1 => u ρ M1 fun d' M2 => ∃ xs ys, lstOf M2 d = some xs ∧ lstOf M2 d' = some ys ∧ R (pairs xs ys) (fun M => lstOf M d = some xs ∧ lstOf M d' = some ys) M2
theorem di_zipL (hm : X.mg "zip" = none) (he : DE X Y e t) (he2 : DE X Y e2 u) (hg : Gl X "zip" := by rfl) (hs : starEach [e, e2] X.env = (false, eval e X.env) :: starEach [e2] X.env := by rfl) (hs2 : starEach [e2] X.env = (false, eval e2 X.env) :: starEach [] X.env := by rfl)
    (hpl : (backTo pos (starEach [e2] X.env)).any (·.1) = false := by rfl) : DI X Y (.Tuple elts kk tpos) (.Call (.Name "zip" p) [e, e2] [] pos) (dZipL t u) := by
  refine PI.weak (pi_zip hg hm (pa_cons he (pa_cons he2 pa_nil hs2) hs) hs hpl) ?_
  rintro σ H R0 ⟨F, M, ρ, R, rs, rl, q, k⟩
  refine ⟨F, M, ρ, _, rs, rl, q, fun v d F1 M1 H1 s1 rp1 q1 => ?_⟩
  refine ⟨F1, M1, ρ, _, rs.mono s1.same, s1.rel, q1, fun v2 d2 F2 M2 H2 s2 rp2 ⟨xs, ys, ex, ey, q2⟩ => ?_⟩
  have r1 := rp1.mono s2.same
  obtain ⟨a, vs, rfl, h1, _⟩ := lstOf_rp s2.rel r1 ex
  obtain ⟨b, ws, rfl, h2, _⟩ := lstOf_rp s2.rel rp2 ey
  refine ⟨a, b, vs, ws, rfl, h1, h2, k _ (pairs xs ys) (fun M => lstOf M d = some xs ∧ lstOf M d2 = some ys) F2 M2 H2 (s1.trans s2) ⟨fun F3 M3 H3 s3 r3 g => ?_⟩ q2⟩
  obtain ⟨a', vs', ea, g1, ra⟩ := lstOf_rp r3 (r1.mono s3) g.1
  obtain ⟨b', ws', eb, g2, rb⟩ := lstOf_rp r3 (rp2.mono s3) g.2
  cases ea
  cases eb
  have W := walk_zip (K := X.K) (a := a) (b := b) (xs := vs') (ys := ws') rfl
  have hl : (pairs xs ys).length = min vs'.length ws'.length := by unfold pairs; rw [List.length_map, List.length_zip, ra.length, rb.length]
  refine ⟨by rw [hl]; exact W.stops H3 ⟨g1, g2⟩, fun i dd hi => ?_⟩
  have hlt : i < min vs'.length ws'.length := by rw [← hl]; exact (List.getElem?_eq_some_iff.mp hi).1
  obtain ⟨x, y, hx, hy, rfl⟩ := pairs_get hi
  refine ⟨W.goes i H3 hlt ⟨g1, g2⟩, fun vv H4 yy => ?_⟩
  obtain ⟨T, x1, y1, rfl, hT, eH, hx1, hy1⟩ := W.yields i H3 vv H4 hlt ⟨g1, g2⟩ yy
  obtain ⟨vx, ex1, rx⟩ := ra.get hx
  obtain ⟨vy, ey1, ry⟩ := rb.get hy
  have hx1 : vs'[i]? = some x1 := hx1
  have hy1 : ws'[i]? = some y1 := hy1
  rw [ex1] at hx1
  rw [ey1] at hy1
  cases hx1
  cases hy1
  exact jw_pair s3 r3 rx ry hT eH

/-! ### zip of two texts -/
def ItzS (x y : Str) : It := ⟨fun i _ => i < x.cps.size ∧ i < y.cps.size,
  fun i H v H' => ∃ T cx cy, v = .ref T ∧ H T = none ∧ H' = upd H T (.tup [.str ⟨#[cx]⟩, .str ⟨#[cy]⟩]) ∧ x.cps[i]? = some cx ∧ y.cps[i]? = some cy,
  fun i _ => i = min x.cps.size y.cps.size⟩
theorem turn_zipS {P : Program} {w : World} {K : PySem.W.Frag} {z TI TO i1 i2 : Addr} {x y : Str} {t1 t2 : Tok} (S : ZipSep2 z TI TO i1 i2 [i1] [i2]) :
    Turn P w K (.Tuple elts kk tpos) (ItzS x y) [z, TI, TO, i1, i2] z (fun i h => IsZip h z TI TO .none ∧ IsTupOf2 h TI (.ref i1) (.ref i2) ∧ (∃ a b, IsTupOf2 h TO a b) ∧ h.IsStrIter i1 (strIterType x) x t1 i ∧ h.IsStrIter i2 (strIterType y) y t2 i) where
  mem := by simp
  obj := fun i h st c hc => by
    obtain ⟨hz, hTI, ⟨a, b, hTO⟩, ⟨o1, e1, _, d1⟩, ⟨o2, e2, _, d2⟩⟩ := st
    have e' : c = z ∨ c = TI ∨ c = TO ∨ c = i1 ∨ c = i2 := by simpa using hc
    rcases e' with q | q | q | q | q
    · rw [q]; exact ⟨_, hz, fun v q => nomatch q⟩
    · rw [q]; exact ⟨_, hTI, fun v q => nomatch q⟩
    · rw [q]; exact ⟨_, hTO, fun v q => nomatch q⟩
    · rw [q]; exact ⟨o1, e1, fun v q => by rw [d1] at q; cases q⟩
    · rw [q]; exact ⟨o2, e2, fun v q => by rw [d2] at q; cases q⟩
  keep := fun i h h' st kp => by
    obtain ⟨hz, hTI, ⟨a, b, hTO⟩, ⟨o1, e1, c1⟩, ⟨o2, e2, c2⟩⟩ := st
    exact ⟨kp z (by simp) _ hz, kp TI (by simp) _ hTI, ⟨a, b, kp TO (by simp) _ hTO⟩, ⟨o1, kp i1 (by simp) o1 e1, c1⟩, ⟨o2, kp i2 (by simp) o2 e2, c2⟩⟩
  item := by
    intro X hP hw hK hc i pins s σ H E I hf st hg
    subst hP hw hK
    obtain ⟨hz, hTI, ⟨a0, b0, hTO⟩, h1, h2⟩ := st
    have D1 := Draws.text (prog := X.prog) (w := X.w) (A := X.A.in1) (I.ok.hd hc) i1 x t1
    have D2 := Draws.text (prog := X.prog) (w := X.w) (A := X.A.in1) (I.ok.hd hc) i2 y t2
    have hzl : z < s.heap.objs.size := Heap.lt_size hz
    refine wpAny_pyNext_zipD2_item S D1 D2 hz hTI hTO h1 h2 hg.1 hg.2 fun v1 v2 h' tk p1 p2 z' TO' h1' h2' hT hsz hk => ?_
    obtain ⟨cx, u1, hx, rfl⟩ := p1
    obtain ⟨cy, u2, hy, rfl⟩ := p2
    refine ⟨_, rfl, wpAny_letOwnedTupleGo_zip (s := { s with heap := h', toks := tk }) z' fun h'' z'' sb => ?_⟩
    have hT2 : IsTupOf2 h'' s.heap.objs.size (.str ⟨#[cx]⟩ u1) (.str ⟨#[cy]⟩ u2) := (sb.2 _ (Nat.ne_of_gt hzl)).trans hT
    have new : ObjOk X.prog X.w (upd H s.heap.objs.size (.tup [.str ⟨#[cx]⟩, .str ⟨#[cy]⟩])) h'' s.heap.objs.size (.tup [.str ⟨#[cx]⟩, .str ⟨#[cy]⟩]) :=
      ⟨by show 2 ≤ sizeLine; decide, [.str ⟨#[cx]⟩ u1, .str ⟨#[cy]⟩ u2], .cons ⟨u1, rfl⟩ (.cons ⟨u2, rfl⟩ .nil), ⟨_, hT2, rfl, _, rfl⟩⟩
    have I1 : Inv X pins σ (upd H s.heap.objs.size (.tup [.str ⟨#[cx]⟩, .str ⟨#[cy]⟩])) { s with heap := h'', toks := tk } :=
      I.turnedNew (t' := tk) (ch := [z, TI, TO, i1, i2]) (fun c o hb q => (sb.2 c (fun q' => hb (by simp [q']))).trans (hk c o (fun q' => hb (by simp [q'])) (fun q' => hb (by simp [q'])) (fun q' => hb (by simp [q'])) (fun q' => hb (by simp [q'])) q)) hf (Nat.le_refl _) new
    refine ⟨.ref s.heap.objs.size, _, I1, rfl, ⟨_, cx, cy, rfl, I.hok.fresh (Nat.le_refl _), rfl, hx, hy⟩, ⟨z'', ?_, ⟨_, _, (sb.2 _ S.TOz).trans TO'⟩, ?_, ?_⟩, fun c hcm => ?_⟩
    · exact (sb.2 _ S.TIz).trans (hk _ _ S.TIz S.TITO S.TIi1 S.TIi2 hTI)
    · obtain ⟨o1, e1, c1⟩ := h1'
      exact ⟨o1, (sb.2 _ (fun q => S.zi1 q.symm)).trans e1, c1⟩
    · obtain ⟨o2, e2, c2⟩ := h2'
      exact ⟨o2, (sb.2 _ (fun q => S.zi2 q.symm)).trans e2, c2⟩
    · have hlt : c < s.heap.objs.size := by
        have e' : c = z ∨ c = TI ∨ c = TO ∨ c = i1 ∨ c = i2 := by simpa using hcm
        rcases e' with q | q | q | q | q
        · rw [q]; exact hzl
        · rw [q]; exact Heap.lt_size hTI
        · rw [q]; exact Heap.lt_size hTO
        · rw [q]; obtain ⟨_, e1, _⟩ := h1; exact Heap.lt_size e1
        · rw [q]; obtain ⟨_, e2, _⟩ := h2; exact Heap.lt_size e2
      rw [upd_ne (Nat.ne_of_lt hlt)]
      exact (hf c hcm).1
  done := by
    intro X hP hw hK hc i pins s σ H E I hf st hg
    subst hP hw hK
    obtain ⟨hz, hTI, ⟨a0, b0, hTO⟩, h1, h2⟩ := st
    have D1 := Draws.text (prog := X.prog) (w := X.w) (A := X.A.in1) (I.ok.hd hc) i1 x t1
    have D2 := Draws.text (prog := X.prog) (w := X.w) (A := X.A.in1) (I.ok.hd hc) i2 y t2
    have hg' : i = min x.cps.size y.cps.size := hg
    refine wpAny_pyNext_zipD2_end S D1 D2 hz hTI hTO h1 h2 (by omega) (by omega) (by omega) fun h' tk hk => ⟨rfl, I.turnedL (t' := tk) (ch := [z, TI, TO, i1, i2]) (fun c o hb q =>
      hk c o (fun q' => hb (by simp [q'])) (fun q' => hb (by simp [q'])) (fun q' => hb (by simp [q'])) (fun q' => hb (by simp [q'])) q) hf⟩
  self := fun A i s Q E st h => wpAny_pyIter_zip st.1 h
def iZipS (ta : TA) : TI := fun σ H R => ta σ H fun vs H1 => ∃ x y, vs = [.str x, .str y] ∧ R (ItzS x y) H1
theorem pi_zipS {ta : TA} (hg : Gl X "zip") (hm : X.mg "zip" = none) (ha : PA X [e, e2] ta)
    (hs : starEach [e, e2] X.env = (false, eval e X.env) :: starEach [e2] X.env) (hpl : (backTo pos (starEach [e2] X.env)).any (·.1) = false) :
    PI X (.Tuple elts kk tpos) (.Call (.Name "zip" p) [e, e2] [] pos) (iZipS ta) := by
  constructor
  intro pins s σ H R I h
  refine Call_ (ld_blt I hg hm PyProof.Rows.boot_zip (PyProof.Rows.callWith_type1 (thn (ha.run pos pins s σ H _ I h) ?_) hs hpl))
  rintro us s1 ⟨vs, H1, I1, r1, x, y, rfl, q⟩
  obtain ⟨u1, u2, rfl, ⟨t1, rfl⟩, ⟨t2, rfl⟩⟩ := vals2 r1
  refine zip_begins2 (begins_text x t1) (begins_text y t2) trivial trivial fun h' hz hTI hTO g1 g2 hsz hk => wpAny_pyIter_zip hz ?_
  have I2 : Inv X pins σ H1 { s1 with heap := h' } := I1.kept (t' := s1.toks) hk
  refine ⟨s1.heap.objs.size + 4, [s1.heap.objs.size + 4, s1.heap.objs.size + 2, s1.heap.objs.size + 3, s1.heap.objs.size, s1.heap.objs.size + 1], _, _, H1, rfl, I2, turn_zipS (zip_sep2 (N := s1.heap.objs.size) (fp1 := []) (fp2 := []) (fun _ z => nomatch z) (fun _ z => nomatch z)), ⟨hz, hTI, ⟨_, _, hTO⟩, ⟨_, g1, rfl, rfl⟩, ⟨_, g2, rfl, rfl⟩⟩, fun c hcm => ?_, q⟩
  have e' : c = s1.heap.objs.size + 4 ∨ c = s1.heap.objs.size + 2 ∨ c = s1.heap.objs.size + 3 ∨ c = s1.heap.objs.size ∨ c = s1.heap.objs.size + 1 := by simpa using hcm
  have hle : s1.heap.objs.size ≤ c := by
    rcases e' with z | z | z | z | z
    · rw [z]; exact Nat.le_add_right _ _
    · rw [z]; exact Nat.le_add_right _ _
    · rw [z]; exact Nat.le_add_right _ _
    · rw [z]; exact Nat.le_refl _
    · rw [z]; exact Nat.le_add_right _ _
  exact I1.fpOk hle (I1.hok.fresh hle)
def dZipS (t u : DTE) : DTI := fun ρ M R => t ρ M fun d M1 => u ρ M1 fun d' M2 => ∃ x y, d = .str x ∧ d' = .str y ∧ R (pairs (signs x) (signs y)) (fun _ => True) M2
theorem di_zipS (hm : X.mg "zip" = none) (he : DE X Y e t) (he2 : DE X Y e2 u) (hg : Gl X "zip" := by rfl) (hs : starEach [e, e2] X.env = (false, eval e X.env) :: starEach [e2] X.env := by rfl) (hs2 : starEach [e2] X.env = (false, eval e2 X.env) :: starEach [] X.env := by rfl)
    (hpl : (backTo pos (starEach [e2] X.env)).any (·.1) = false := by rfl) : DI X Y (.Tuple elts kk tpos) (.Call (.Name "zip" p) [e, e2] [] pos) (dZipS t u) := by
  refine PI.weak (pi_zipS hg hm (pa_cons he (pa_cons he2 pa_nil hs2) hs) hs hpl) ?_
  rintro σ H R0 ⟨F, M, ρ, R, rs, rl, q, k⟩
  refine ⟨F, M, ρ, _, rs, rl, q, fun v d F1 M1 H1 s1 rp1 q1 => ?_⟩
  refine ⟨F1, M1, ρ, _, rs.mono s1.same, s1.rel, q1, fun v2 d2 F2 M2 H2 s2 rp2 ⟨x, y, ex, ey, q2⟩ => ?_⟩
  subst ex ey
  cases rp1
  cases rp2
  refine ⟨x, y, rfl, k _ _ _ F2 M2 H2 (s1.trans s2) ⟨fun F3 M3 H3 s3 r3 g => ?_⟩ q2⟩
  have hl : (pairs (signs x) (signs y)).length = min x.cps.size y.cps.size := by unfold pairs signs; simp
  refine ⟨hl, fun i dd hi => ?_⟩
  have hlt : i < min x.cps.size y.cps.size := by rw [← hl]; exact (List.getElem?_eq_some_iff.mp hi).1
  obtain ⟨a, b, ha, hb, rfl⟩ := pairs_get hi
  refine ⟨⟨by omega, by omega⟩, fun vv H4 yy => ?_⟩
  obtain ⟨T, cx, cy, rfl, hT, eH, hx, hy⟩ := yy
  unfold signs at ha hb
  rw [List.getElem?_map, Array.getElem?_toList, hx] at ha
  rw [List.getElem?_map, Array.getElem?_toList, hy] at hb
  cases ha
  cases hb
  exact jw_pair s3 r3 (.str _) (.str _) hT eH

/-! ### list(range(n)) -/
def dListRg (fz : Bool) (t : DTE) : DTE := fun ρ M Q => t ρ M fun d M1 => ∃ j, d = .int j ∧ 0 ≤ j ∧ j ≤ 16777216 ∧ newL fz (rgD 0 j.toNat) M1 Q
theorem rgV_rp {K : PySem.W.Frag} {F : Hp} (j : Int) : RpAll K F (L2.rgV 0 j) (rgD 0 j.toNat) := by
  have g : ∀ n : Nat, ∀ f : Nat → Int, RpAll K F ((List.range n).map fun i => V.int (f i)) ((List.range n).map fun i => D.int (f i)) := by
    intro n
    induction n with
    | zero => intro f; exact .nil
    | succ n ih =>
      intro f
      rw [List.range_succ_eq_map, List.map_cons, List.map_cons, List.map_map, List.map_map]
      exact .cons (.int _) (ih fun i => f (i + 1))
  have := g j.toNat fun i => 0 + (i : Nat)
  unfold L2.rgV rgD
  rw [show (j - 0).toNat = j.toNat by omega]
  exact this
theorem de_listRg (fz : Bool) {p1 p2 : Pos} (m1 : X.mg "list" = none) (m2 : X.mg "range" = none) (he : DE X Y e t) (hc : X.calm = true := by rfl) (g1 : Gl X "list" := by rfl) (g2 : Gl X "range" := by rfl)
    (na : starEach [e] X.env = (false, eval e X.env) :: starEach [] X.env := by rfl) (na2 : starEach [.Call (.Name "range" p1) [e] [] p2] X.env = (false, eval (.Call (.Name "range" p1) [e] [] p2) X.env) :: starEach [] X.env := by rfl) :
    DE X Y (.Call (.Name "list" p) [.Call (.Name "range" p1) [e] [] p2] [] pos) (dListRg fz t) := by
  refine PE.weak (pe_listRg hc g1 m1 (prg_1 g2 m2 he na) na2) ?_
  rintro σ H Q0 ⟨F, M, ρ, Q, rs, rl, q, k⟩
  refine ⟨F, M, ρ, _, rs, rl, q, fun v d F1 M1 H1 s1 rp1 ⟨j, ed, h0, h1, q1⟩ => ?_⟩
  subst ed
  cases rp1
  refine ⟨j, rfl, RgOk.of_le (by omega) h1 (by omega) h0, fun l hl => ?_⟩
  exact newL_ok s1.rel (rgV_rp j) q1 (fun v d F' M' H' s => k v d F' M' H' (s1.trans s)) l hl
end
end DL

/-! DL8a: sets of texts made of a list or of a text, and their sorted list. -/
namespace DL
open PySem PySem.Spec L2
open PyProof.Rows hiding St

def kOf (e : Int × Value) : Str := match e.2 with
  | .str k _ => k
  | _ => Str.empty
def TxE (w : World) (e : Int × Value) : Prop := ∃ k u, e = (hashStr w k, Value.str k u)
/-- the set at a has just the texts ks -/
def TxS (w : World) (h : Heap) (a : Addr) (ks : List Str) : Prop :=
  ∃ o es ep t, h.get? a = some o ∧ o.ExactSet ∧ o.data = .set es ep t ∧ (∀ e ∈ es.toList, TxE w e) ∧ (es.toList.map kOf).Perm ks ∧ ks.Nodup ∧
    es.size < scanBound ∧ t.fits es.size = true ∧ Ris t.place.toList ∧ (w.params.followText "set-order" = true ∨ t.led = true)
section
variable {P : Program} {w : World} {A : Around} {E : Value → Shared → Prop} {s : Shared} {a : Addr} {ks : List Str}
theorem TxS.at {h h' : Heap} (R : TxS w h a ks) (keep : ∀ o, h.get? a = some o → h'.get? a = some o) : TxS w h' a ks :=
  let ⟨o, es, ep, t, x, r⟩ := R
  ⟨o, es, ep, t, keep o x, r⟩
theorem tx_elems {l : List (Int × Value)} (g : ∀ e ∈ l, TxE w e) : ElemsOf (PySem.strKind P w) l := by
  intro e he
  obtain ⟨k, u, rfl⟩ := g e he
  exact ⟨⟨k, strKind_is P w k u, rfl⟩, rfl⟩
theorem tx_is (k k2 : Str) (u : Tok) : (PySem.strKind P w).is k (.str k2 u) = true ↔ k2 = k := by
  show Value.isStrOf k (.str k2 u) = true ↔ _
  simp [Value.isStrOf]
theorem tx_none {l : List (Int × Value)} (g : ∀ e ∈ l, TxE w e) (k : Str) : k ∈ l.map kOf ↔ ∃ e ∈ l, (PySem.strKind P w).is k e.2 = true := by
  rw [List.mem_map]
  refine ⟨fun ⟨e, he, q⟩ => ⟨e, he, ?_⟩, fun ⟨e, he, q⟩ => ⟨e, he, ?_⟩⟩ <;> obtain ⟨k2, u, rfl⟩ := g e he
  · exact (tx_is k k2 u).2 q
  · exact (tx_is k k2 u).1 q
set_option maxHeartbeats 1000000 in
theorem tx_add {k : Str} {u : Tok} {Q : Bool → Shared → Prop} (R : TxS w s.heap a ks) (room : ks.length + 1 < scanBound)
    (hQ : ∀ h' b, Heap.SameBut a s.heap h' → TxS w h' a (if k ∈ ks then ks else k :: ks) → Q b { s with heap := h' }) :
    wpAny (model P w) A (setAddHashed a (.str k u) ((PySem.strKind P w).hash k)) Q E s := by
  obtain ⟨o, es, ep, t, ho, hex, hd, good, pm0, nodup, small, fit, rises, led⟩ := R
  have key : (PySem.strKind P w).is k (.str k u) = true := strKind_is P w k u
  have scan : (Value.str k u).scannable = true := rfl
  have elems : ElemsOf (PySem.strKind P w) es.toList := tx_elems good
  unfold setAddHashed setAddHashedIn
  refine wpAny_holding (wpAny_bind (wpAny_setState_of ho hd fit ?_))
  dsimp only
  rw [byScan_of scan small elems]
  simp only [↓reduceIte]
  unfold setAddByScan
  refine wpAny_bind (wpAny_bind (wpAny_rule (wpAny_bind (wpAny_setScan_of key ho hd fit elems ?_))))
  cases hfi : List.findIdx? (fun e => (PySem.strKind P w).is k e.2) es.toList with
  | some j =>
    obtain ⟨hj, pj, _⟩ := List.findIdx?_eq_some_iff_getElem.mp hfi
    have inn : k ∈ ks := pm0.mem_iff.mp ((tx_none (P := P) (w := w) good k).2 ⟨_, List.getElem_mem hj, pj⟩)
    refine wpAny_pure (wpAny_pure (hQ s.heap _ (Heap.SameBut.refl a s.heap) ?_))
    rw [if_pos inn]
    exact ⟨o, es, ep, t, ho, hex, hd, good, pm0, nodup, small, fit, rises, led⟩
  | none =>
    dsimp only
    have out : k ∉ ks := fun z => by
      obtain ⟨e, he, q⟩ := (tx_none (P := P) (w := w) good k).1 (pm0.mem_iff.mpr z)
      rw [List.findIdx?_eq_none_iff.mp hfi e he] at q
      cases q
    have said : ∀ (b : Bool) {s1 : Shared} {Q' : Unit → Shared → Prop}, Q' () s1 → wpAny (model P w) A (match b with | true => rule "set.scan.the-table-gave-way" | false => pure ()) Q' E s1 := by
      intro b s1 Q' q
      cases b
      · exact wpAny_pure q
      · exact wpAny_rule q
    have p1 := layNew_perm t es ((PySem.strKind P w).hash k) (.str k u)
    have f1 := layNew_fits t es ((PySem.strKind P w).hash k) (.str k u)
    have i1 := layNew_ris t es ((PySem.strKind P w).hash k) (.str k u) rises
    have l1 := layNew_led t es ((PySem.strKind P w).hash k) (.str k u)
    generalize layNew t es ((PySem.strKind P w).hash k) (.str k u) = Z at p1 f1 i1 l1 ⊢
    obtain ⟨es1, t1, dummy, gave⟩ := Z
    dsimp only at p1 f1 i1 l1 ⊢
    rw [Array.toList_push] at p1
    have pc := p1.trans (List.perm_append_singleton _ _)
    have pk : (es1.toList.map kOf).Perm (k :: ks) := (pc.map kOf).trans (pm0.cons k)
    have g1 : ∀ e ∈ es1.toList, TxE w e := by
      intro e he
      cases List.mem_cons.mp (pc.mem_iff.mp he) with
      | inl z => exact ⟨k, u, z⟩
      | inr z => exact good e z
    have nd1 : (k :: ks).Nodup := List.nodup_cons.mpr ⟨out, nodup⟩
    have size1 : es1.size = ks.length + 1 := by
      have q := pk.length_eq
      rw [List.length_map, List.length_cons, Array.length_toList] at q
      exact q
    have small1 : es1.size < scanBound := size1 ▸ room
    have led1 : w.params.followText "set-order" = true ∨ t1.led = true := led.imp id fun z => by rw [l1]; exact z
    have fin : ∀ h' b, Heap.SameBut a s.heap h' → TxS w h' a (k :: ks) → Q b { s with heap := h' } := fun h' b sb r => hQ h' b sb (by rw [if_neg out]; exact r)
    have last : ∀ (t2 : SetTable), t2.fits es1.size = true → Ris t2.place.toList → (w.params.followText "set-order" = true ∨ t2.led = true) →
        (∃ o1, (s.heap.update a (Obj.putSet es1 t2)).get? a = some o1 ∧ o1.ExactSet ∧ o1.data = .set es1 (ep + 1) t2) ∧ TxS w (s.heap.update a (Obj.putSet es1 t2)) a (k :: ks) ∧
        (∃ es3 t3, es3 = (relayAll t2 es1 (SetTable.grown es1.size)).1 ∧ t3 = (relayAll t2 es1 (SetTable.grown es1.size)).2.1 ∧ es3.size < scanBound ∧ TxS w ((s.heap.update a (Obj.putSet es1 t2)).update a (Obj.putSet es3 t3)) a (k :: ks)) := by
      intro t2 f2 i2 l2
      have ho1 := store_at (es' := es1) (t' := t2) ho hd
      refine ⟨⟨_, ho1, hex, rfl⟩, ⟨_, es1, _, t2, ho1, hex, rfl, g1, pk, nd1, small1, f2, i2, l2⟩, _, _, rfl, rfl, ?_⟩
      have p3 := relayAll_perm t2 es1 (SetTable.grown es1.size)
      have f3 := relayAll_fits t2 es1 (SetTable.grown es1.size)
      have i3 := relayAll_ris t2 es1 (SetTable.grown es1.size)
      have l3 := relayAll_led t2 es1 (SetTable.grown es1.size)
      have ho2 := store_at (es' := (relayAll t2 es1 (SetTable.grown es1.size)).1) (t' := (relayAll t2 es1 (SetTable.grown es1.size)).2.1) ho1 rfl
      have size3 : (relayAll t2 es1 (SetTable.grown es1.size)).1.size = es1.size := by
        have q := p3.length_eq
        rw [Array.length_toList, Array.length_toList] at q
        exact q
      have small3 := small1
      rw [← size3] at small3
      refine ⟨small3, _, _, _, _, ho2, hex, rfl, fun e he => g1 e (p3.mem_iff.mp he), (p3.map kOf).trans pk, nd1, small3, f3, i3, l2.imp id fun z => by rw [l3]; exact z⟩
    have sb1 : ∀ t2, Heap.SameBut a s.heap (s.heap.update a (Obj.putSet es1 t2)) := fun t2 => Heap.SameBut.update s.heap a _
    refine wpAny_bind (said _ ?_)
    split
    · refine wpAny_bind ?_
      rw [hashByValue_scannable 8 scan]
      refine wpAny_pure ?_
      refine wpAny_bind (wpAny_storeSet_of ho hd ?_ (fits_of_scanBound small1))
      split
      · obtain ⟨⟨o1, ho1, x1, d1⟩, r1, es3, t3, e3, et3, b3, r3⟩ := last t1 f1 i1 led1
        split
        · refine wpAny_bind (said _ ?_)
          refine wpAny_bind (wpAny_storeSet_of ho1 d1 ?_ (fits_of_scanBound (by rw [← e3]; exact b3)))
          rw [← e3, ← et3]
          exact wpAny_pure (wpAny_pure (fin _ _ ((sb1 _).trans (Heap.SameBut.update _ a _)) r3))
        · exact wpAny_pure (wpAny_pure (fin _ _ (sb1 _) r1))
      · obtain ⟨⟨o1, ho1, x1, d1⟩, r1, es3, t3, e3, et3, b3, r3⟩ := last { t1 with plain := false } (SetTable.fits_plain_off f1) i1 led1
        split
        · refine wpAny_bind (said _ ?_)
          refine wpAny_bind (wpAny_storeSet_of ho1 d1 ?_ (fits_of_scanBound (by rw [← e3]; exact b3)))
          rw [← e3, ← et3]
          exact wpAny_pure (wpAny_pure (fin _ _ ((sb1 _).trans (Heap.SameBut.update _ a _)) r3))
        · exact wpAny_pure (wpAny_pure (fin _ _ (sb1 _) r1))
    · refine wpAny_bind (wpAny_pure ?_)
      simp only [↓reduceIte]
      refine wpAny_bind (wpAny_storeSet_of ho hd ?_ (fits_of_scanBound small1))
      obtain ⟨⟨o1, ho1, x1, d1⟩, r1, es3, t3, e3, et3, b3, r3⟩ := last t1 f1 i1 led1
      split
      · refine wpAny_bind (said _ ?_)
        refine wpAny_bind (wpAny_storeSet_of ho1 d1 ?_ (fits_of_scanBound (by rw [← e3]; exact b3)))
        rw [← e3, ← et3]
        exact wpAny_pure (wpAny_pure (fin _ _ ((sb1 _).trans (Heap.SameBut.update _ a _)) r3))
      · exact wpAny_pure (wpAny_pure (fin _ _ (sb1 _) r1))
end
end DL

/-! DL8b: set(a list of texts), set(a text). -/
namespace DL
open PySem PySem.Spec L2
open PyProof.Rows hiding St

section
variable {P : Program} {w : World} {A : Around} {E : Value → Shared → Prop} {s : Shared}
/-- few distinct texts -/
def Few (xs : List Str) : Prop := ∀ ks : List Str, ks.Nodup → (∀ k ∈ ks, k ∈ xs) → ks.length < 64
theorem tx_loop {I : Addr} {fp wr : List Addr} {G : Array GenState → Array GenState → Prop} {n : Nat} {Pv : Nat → Value → Prop} {St : Nat → Shared → Prop} {R : Result → Shared → Prop}
    (W : WalksS P w A.in1 I fp wr G n Pv St) (S : Addr) (apart : S ∉ fp) (xs : List Str) (hn : n = xs.length) (few : Few xs) (items : ∀ i v, Pv i v → ∃ k t, xs[i]? = some k ∧ v = .str k t) :
    ∀ (m i : Nat) (s : Shared), n - i = m → i ≤ n → St i s → (∃ ks, TxS w s.heap S ks ∧ ∀ k, k ∈ ks ↔ k ∈ xs.take i) →
      (∀ s' ks, Moved (S :: wr) G s s' → TxS w s'.heap S ks → (∀ k, k ∈ ks ↔ k ∈ xs) → R (.ok (.ret .none)) s') →
      codeAny (model P w) A (.builtin "set.update.loop" ⟨[.ref S, .ref I], []⟩) R s := by
  have Sw : S ∉ wr := fun z => apart (W.sub _ z)
  have wide : ∀ b ∈ wr, b ∈ S :: wr := fun b z => List.mem_cons_of_mem _ z
  intro m
  induction m with
  | zero =>
    rintro i s hm hi st ⟨ks, T, mem⟩ hR
    obtain rfl : i = n := by omega
    refine codeAny_builtin F.entry_set_update_loop ?_
    rw [Around.under_plainId F.plain_set_update_loop _]
    show wpAny _ A.in1 (pyNext (.ref I) >>= _) _ _ s
    refine wpAny_bind (W.done s _ _ st fun s1 mv => ?_)
    have whole : xs.take i = xs := List.take_of_length_le (Nat.le_of_eq hn.symm)
    rw [whole] at mem
    exact wpAny_pure (hR s1 ks (mv.mono wide) (T.at fun o e => mv.heap S o Sw e) mem)
  | succ m ih =>
    rintro i s hm hi st ⟨ks, T, mem⟩ hR
    have lt : i < n := by omega
    refine codeAny_builtin F.entry_set_update_loop ?_
    rw [Around.under_plainId F.plain_set_update_loop _]
    show wpAny _ A.in1 (pyNext (.ref I) >>= _) _ _ s
    refine wpAny_bind (W.item i s _ _ lt st fun v s1 pv st1 mv => ?_)
    obtain ⟨z, t, hz, rfl⟩ := items i v pv
    have T1 : TxS w s1.heap S ks := T.at fun o e => mv.heap S o Sw e
    refine wpAny_bind (m := holding [Value.str z t] (setAdd S (.str z t))) (wpAny_holding ?_)
    unfold setAdd
    refine wpAny_holding (wpAny_bind ((PySem.strKind P w).pyHash (k := z) (strKind_is _ _ _ _) ?_))
    have short : ks.length < 64 := few ks (by obtain ⟨_, _, _, _, _, _, _, _, _, nd, _⟩ := T1; exact nd) fun k hk => List.mem_of_mem_take ((mem k).mp hk)
    refine tx_add (s := { s1 with toks := s1.toks + 1 }) T1 (by unfold scanBound; omega) fun h' b same T2 => ?_
    have mem2 : ∀ k, k ∈ (if z ∈ ks then ks else z :: ks) ↔ k ∈ xs.take (i + 1) := fun k => by
      rw [List.take_add_one, hz, List.mem_append, ← mem k]
      split
      · rename_i zin
        exact ⟨.inl, fun q => q.elim id fun e => by simp at e; rw [e]; exact zin⟩
      · rw [List.mem_cons]
        simp [or_comm]
    refine wpAny_pure ⟨plainId_quiet F.plain_set_update_loop _, ih (i + 1) _ (by omega) lt (W.frame _ s1 _ _ st1 (Nat.le_succ _) fun b hb o e => ?_) ⟨_, T2, mem2⟩ fun s2 k2 mv2 T3 m3 => ?_⟩
    · have ne : b ≠ S := fun q => apart (q ▸ hb)
      exact (same.2 b ne).trans e
    · refine hR s2 k2 (Moved.trans W.gtrans ((mv.mono wide).then_heap (Nat.le_succ _) fun b o hb e => ?_) mv2) T3 m3
      have ne : b ≠ S := fun q => hb (q ▸ List.mem_cons_self)
      exact (same.2 b ne).trans e
abbrev sO (w : World) : Obj := { cls := .type "set", dict := none, data := .set #[] 0 (.fresh 0 0 (!w.params.followText "set-order")) }
theorem tx_new {h : Heap} {a : Addr} (ho : h.get? a = some (sO w)) : TxS w h a [] :=
  ⟨_, #[], 0, _, ho, ⟨rfl, rfl, rfl⟩, rfl, (fun e he => nomatch he), .nil, .nil, (by decide), (by rfl), .nil, by
    show _ ∨ (!w.params.followText "set-order") = true
    cases w.params.followText "set-order"
    · exact .inr rfl
    · exact .inl rfl⟩
set_option maxHeartbeats 3200000 in
theorem call_setL {l : Addr} {items : Array Value} {xs : List Str} {Q : Value → Shared → Prop} (hh : A.handled = none) (hl : s.heap.IsList l items) (are : ∀ (i : Nat) (v : Value), items[i]? = some v → ∃ k t, xs[i]? = some k ∧ v = .str k t) (len : items.size = xs.length) (few : Few xs)
    (k : ∀ (h' : Heap) (tk : Nat) (ks : List Str), TxS w h' s.heap.objs.size ks → (∀ k, k ∈ ks ↔ k ∈ xs) → (∀ b o, s.heap.get? b = some o → h'.get? b = some o) → Q (.ref s.heap.objs.size) { s with heap := h', toks := tk }) :
    wpAny (model P w) A (call (.type "set") [.ref l]) Q E s := by
  obtain ⟨c, tl, hmro⟩ := F.called_set.mro
  have hmade := F.called_set.made
  have hsub := F.called_set.sub
  refine wpAny_call (codeAny_of_tree (wpAny_pure (a := _) ⟨Code.quiet_builtin _ (by decide +kernel), codeAny_builtin F.entry_type_call ?_⟩))
  rw [Around.under_plain (weight_type_call_type "set" [.ref l] []) rfl]
  have h1 := F.called_set.notType
  have h2 := F.called_set.canCreate
  have hct := F.typeCall_set_1 (.ref l)
  repeat (any_goals (first | assumption | wp_step))
  refine codeAny_mono (code_set_led1 (.ref l) (E := E) (Q₁ := fun v s1 => v = .ref s.heap.objs.size ∧ s1 = { s with heap := s.heap.push (sO w) }) ⟨rfl, rfl⟩) fun r s1 hr => ?_
  match r, hr with
  | .error e, hr => exact hr
  | .ok (.ret v), hr =>
    obtain ⟨rfl, rfl⟩ := hr
    have new : (s.heap.push (sO w)).get? s.heap.objs.size = some (sO w) := Heap.get?_push_size _ rfl
    have hT : Shared.TypeIs { s with heap := s.heap.push (sO w) } (.ref s.heap.objs.size) "set" := ⟨_, new, rfl⟩
    have hli := F.called_set.init.lookup
    have hbi := F.called_set.init.bind (.ref s.heap.objs.size)
    repeat (any_goals (first | assumption | wp_step))
    refine codeAny_mono (codeAny_call_builtin (R := wants (fun r s2 => r = .none ∧ ∃ h' tk ks, s2 = { s with heap := h', toks := tk } ∧ TxS w h' s.heap.objs.size ks ∧ (∀ k, k ∈ ks ↔ k ∈ xs) ∧
      (∀ b o, s.heap.get? b = some o → h'.get? b = some o)) E) F.called_set.init.plain F.entry_set_init (check_set_init_1 hT ?_)) fun r2 s2 hr2 => ?_
    · obtain ⟨ol, hol, hcl, nl, hdl⟩ := hl
      obtain ⟨ocls, odict, odata, oslots⟩ := ol
      dsimp only at hcl hdl
      subst hcl hdl
      have hol2 : (s.heap.push (sO w)).get? l = some { cls := .type "list", dict := odict, data := .seq items nl, slots := oslots } := Heap.get?_push_of_some _ hol
      have y1 := F.sub_list_set
      have y2 := F.sub_list_frozenset
      have y3 : (Value.type "list" == Value.type "dict") = false := by decide
      have hl1 : (s.heap.push (sO w)).IsList l items := ⟨_, hol2, rfl, nl, rfl⟩
      unfold Builtin.«set.__init__» noKeywords Builtin.Frozenset.updateFrom
      generalize hPI : pyIter = PI
      wp_walk
      subst hPI
      refine wpAny_pyIter_list hl1 (wpAny_bind (wpAny_runValue ?_))
      have ll : l < s.heap.objs.size := Heap.lt_size hol
      have sz : (s.heap.push (sO w)).objs.size = s.heap.objs.size + 1 := Heap.size_push ..
      have ne1 : l ≠ (s.heap.push (sO w)).objs.size := Nat.ne_of_lt (by rw [sz]; exact Nat.lt_succ_of_lt ll)
      have ne2 : s.heap.objs.size ∉ [(s.heap.push (sO w)).objs.size, l] := by
        simp only [List.mem_cons, List.not_mem_nil, or_false, not_or]
        exact ⟨Nat.ne_of_lt (by rw [sz]; exact Nat.lt_succ_self _), Nat.ne_of_gt ll⟩
      refine tx_loop ((Walks.list (by simp [hh]) _ l ne1 items).toS) s.heap.objs.size ne2 xs len few are (items.size - 0) 0 _ (by omega) (Nat.zero_le _) ⟨⟨_, Heap.get?_push_size _ rfl, rfl, rfl⟩, hl1.push _⟩
        ⟨[], tx_new (Heap.get?_push_of_some _ new), fun k => by simp⟩ fun s' ks mv T mem => ?_
      obtain ⟨h', g2, d', tk', os'⟩ := s'
      obtain rfl : g2 = s.gens := mv.gens
      obtain rfl : d' = s.drawn := mv.drawn
      obtain rfl : os' = s.os := mv.os
      show wpAny _ _ _ _ _ _
      refine wpAny_pure ?_
      show wpAny _ _ (ret Value.none) _ _ _
      refine wpAny_pure ⟨rfl, h', tk', ks, rfl, T, mem, fun b o e => ?_⟩
      have lb : b < s.heap.objs.size := Heap.lt_size e
      refine mv.heap b o ?_ (Heap.get?_push_of_some _ (Heap.get?_push_of_some _ e))
      simp only [List.mem_cons, List.not_mem_nil, or_false, not_or]
      exact ⟨Nat.ne_of_lt lb, Nat.ne_of_lt (by rw [sz]; exact Nat.lt_succ_of_lt lb)⟩
    · match r2, hr2 with
      | .error e, hr2 => exact hr2
      | .ok (.ret r), hr2 =>
        obtain ⟨rfl, h', tk, ks, rfl, T, mem, kp⟩ := hr2
        repeat (any_goals (first | assumption | wp_step))
        exact k _ _ _ T mem kp
      | .ok .next, hr2 => exact hr2.elim
      | .ok .brk, hr2 => exact hr2.elim
      | .ok .cont, hr2 => exact hr2.elim
  | .ok .next, hr => exact hr.elim
  | .ok .brk, hr => exact hr.elim
  | .ok .cont, hr => exact hr.elim
set_option maxHeartbeats 3200000 in
theorem call_setT {x : Str} {u : Tok} {Q : Value → Shared → Prop} (hh : A.handled = none) (few : Few (PyProof.Rows.signs x))
    (k : ∀ (h' : Heap) (tk : Nat) (ks : List Str), TxS w h' s.heap.objs.size ks → (∀ k, k ∈ ks ↔ k ∈ PyProof.Rows.signs x) → (∀ b o, s.heap.get? b = some o → h'.get? b = some o) → Q (.ref s.heap.objs.size) { s with heap := h', toks := tk }) :
    wpAny (model P w) A (call (.type "set") [.str x u]) Q E s := by
  obtain ⟨c, tl, hmro⟩ := F.called_set.mro
  have hmade := F.called_set.made
  have hsub := F.called_set.sub
  refine wpAny_call (codeAny_of_tree (wpAny_pure (a := _) ⟨Code.quiet_builtin _ (by decide +kernel), codeAny_builtin F.entry_type_call ?_⟩))
  rw [Around.under_plain (weight_type_call_type "set" [.str x u] []) rfl]
  have h1 := F.called_set.notType
  have h2 := F.called_set.canCreate
  have hct := F.typeCall_set_1 (.str x u)
  repeat (any_goals (first | assumption | wp_step))
  refine codeAny_mono (code_set_led1 (.str x u) (E := E) (Q₁ := fun v s1 => v = .ref s.heap.objs.size ∧ s1 = { s with heap := s.heap.push (sO w) }) ⟨rfl, rfl⟩) fun r s1 hr => ?_
  match r, hr with
  | .error e, hr => exact hr
  | .ok (.ret v), hr =>
    obtain ⟨rfl, rfl⟩ := hr
    have new : (s.heap.push (sO w)).get? s.heap.objs.size = some (sO w) := Heap.get?_push_size _ rfl
    have hT : Shared.TypeIs { s with heap := s.heap.push (sO w) } (.ref s.heap.objs.size) "set" := ⟨_, new, rfl⟩
    have hli := F.called_set.init.lookup
    have hbi := F.called_set.init.bind (.ref s.heap.objs.size)
    repeat (any_goals (first | assumption | wp_step))
    refine codeAny_mono (codeAny_call_builtin (R := wants (fun r s2 => r = .none ∧ ∃ h' tk ks, s2 = { s with heap := h', toks := tk } ∧ TxS w h' s.heap.objs.size ks ∧ (∀ k, k ∈ ks ↔ k ∈ PyProof.Rows.signs x) ∧
      (∀ b o, s.heap.get? b = some o → h'.get? b = some o)) E) F.called_set.init.plain F.entry_set_init (check_set_init_1 hT ?_)) fun r2 s2 hr2 => ?_
    · have y1 := F.sub_str_set
      have y2 := F.sub_str_frozenset
      have y3 : (Value.type "str" == Value.type "dict") = false := by decide
      have y4 : Shared.TypeIs { s with heap := s.heap.push (sO w) } (.str x u) "str" := typeIs_str _ _ _
      unfold Builtin.«set.__init__» noKeywords Builtin.Frozenset.updateFrom
      generalize hPI : pyIter = PI
      wp_walk
      subst hPI
      refine wpAny_pyIter_str fun o St walks st0 => wpAny_bind (wpAny_runValue ?_)
      have sz : (s.heap.push (sO w)).objs.size = s.heap.objs.size + 1 := Heap.size_push ..
      have ne2 : s.heap.objs.size ∉ [(s.heap.push (sO w)).objs.size] := by
        simp only [List.mem_cons, List.not_mem_nil, or_false]
        exact Nat.ne_of_lt (by rw [sz]; exact Nat.lt_succ_self _)
      have len : x.cps.size = (PyProof.Rows.signs x).length := by unfold PyProof.Rows.signs; simp
      have are : ∀ (i : Nat) (v : Value), SignAt x i v → ∃ k t, (PyProof.Rows.signs x)[i]? = some k ∧ v = .str k t := by
        rintro i v ⟨c, t, hc, rfl⟩
        exact ⟨_, t, by unfold PyProof.Rows.signs; rw [List.getElem?_map, Array.getElem?_toList, hc]; rfl, rfl⟩
      refine tx_loop ((walks _ (by simp [hh])).toS) s.heap.objs.size ne2 (PyProof.Rows.signs x) len few are (x.cps.size - 0) 0 _ (by omega) (Nat.zero_le _) st0
        ⟨[], tx_new (Heap.get?_push_of_some _ new), fun k => by simp⟩ fun s' ks mv T mem => ?_
      obtain ⟨h', g2, d', tk', os'⟩ := s'
      obtain rfl : g2 = s.gens := mv.gens
      obtain rfl : d' = s.drawn := mv.drawn
      obtain rfl : os' = s.os := mv.os
      show wpAny _ _ _ _ _ _
      refine wpAny_pure ?_
      show wpAny _ _ (ret Value.none) _ _ _
      refine wpAny_pure ⟨rfl, h', tk', ks, rfl, T, mem, fun b o e => ?_⟩
      have lb : b < s.heap.objs.size := Heap.lt_size e
      refine mv.heap b o ?_ (Heap.get?_push_of_some _ (Heap.get?_push_of_some _ e))
      simp only [List.mem_cons, List.not_mem_nil, or_false, not_or]
      exact ⟨Nat.ne_of_lt lb, Nat.ne_of_lt (by rw [sz]; exact Nat.lt_succ_of_lt lb)⟩
    · match r2, hr2 with
      | .error e, hr2 => exact hr2
      | .ok (.ret r), hr2 =>
        obtain ⟨rfl, h', tk, ks, rfl, T, mem, kp⟩ := hr2
        repeat (any_goals (first | assumption | wp_step))
        exact k _ _ _ T mem kp
      | .ok .next, hr2 => exact hr2.elim
      | .ok .brk, hr2 => exact hr2.elim
      | .ok .cont, hr2 => exact hr2.elim
  | .ok .next, hr => exact hr.elim
  | .ok .brk, hr => exact hr.elim
  | .ok .cont, hr => exact hr.elim
end
end DL

/-! DL8c: sorted(set(x)) as a rule. -/
namespace DL
open PySem PySem.Spec L2
open PyProof.Rows hiding St

section
variable {P : Program} {w : World} {A : Around} {E : Value → Shared → Prop} {s : Shared} {a : Addr} {ks : List Str}
theorem strs_of : ∀ l : List Value, (∀ v ∈ l, ∃ k u, v = Value.str k u) → ∃ ns, StrsAre l ns ∧ ns = l.map fun v => kOf (0, v)
  | [], _ => ⟨[], .nil, rfl⟩
  | v :: l, h => by
    obtain ⟨k, u, rfl⟩ := h v List.mem_cons_self
    obtain ⟨ns, g, e⟩ := strs_of l fun x hx => h x (List.mem_cons_of_mem _ hx)
    exact ⟨k :: ns, .cons k u g, by rw [e]; rfl⟩
set_option maxHeartbeats 4000000 in
theorem tx_sorted {Q : Value → Shared → Prop} (R : TxS w s.heap a ks) (hh : A.handled = none) (few : ks.length < 64)
    (k : ∀ s' p (out : Array Value) (c : Nat) (ys : List Str), (∀ b o, s.heap.get? b = some o → s'.heap.get? b = some o) → s'.gens = s.gens → s'.os = s.os → s.heap.objs.size ≤ p →
      s'.heap.get? p = some (seqObj "list" out c) → StrsAre out.toList ys → ys.Perm ks → sortedS ys = true → Q (.ref p) s') :
    wpAny (model P w) A (call (.builtin "sorted") [.ref a]) Q E s := by
  obtain ⟨o, es, ep, t, ho, hex, hd, good, pm, nd, small, fit, rises, led⟩ := R
  have size : es.size = ks.length := by
    have q := pm.length_eq
    rw [List.length_map, Array.length_toList] at q
    exact q
  refine Calls.call_function_entry kind_sorted plain_sorted entry_sorted (args_sorted1 _) ?_
  unfold Builtin.«sorted»
  refine wpAny_bind (m := checkCount "sorted" 1 1 _) (wpAny_pure (wpAny_bind (collect_set (A := A.in1) hh ⟨o, ho, hex.1, hd⟩ fit small rises led fun s1 vs kp1 hz g1 o1 p1 => ?_)))
  have lv : vs.length = ks.length := by rw [p1.length_eq, List.length_map, Array.length_toList]; exact size
  obtain ⟨ns, hS, ens⟩ := strs_of vs fun v hv => by
    obtain ⟨e, he, q⟩ := List.mem_map.mp (p1.mem_iff.mp hv)
    obtain ⟨k, u, rfl⟩ := good e he
    exact ⟨k, u, q.symm⟩
  have pn : ns.Perm ks := by
    have q := p1.map fun v => kOf (0, v)
    rw [List.map_map] at q
    rw [ens]
    exact q.trans pm
  refine wpAny_bind (wpAny_newList ?_ (by rw [lv, sizeLine_eq]; omega))
  have hl : (s1.heap.push (seqObj "list" vs.toArray 0)).get? s1.heap.objs.size = some (seqObj "list" vs.toArray 0) := Heap.get?_push_size _ rfl
  refine wpAny_bind (wpAny_holding (wpAny_call_entry slot_list_sort ⟨_, hl, rfl⟩ entry_list_sort (list_sort_treeK strKind_oneLt hl hS.keysOf (fun v1 v2 r e => keyKind_strs (by rw [← e]; exact hS)) (by rw [lv]; exact few) fun st' a1 a2 => ⟨_, rfl, ?_⟩) (args_list_sort _)))
  obtain ⟨ys, h1, h2, h3⟩ := sorted_out_str hS a1 a2
  obtain ⟨c, hc⟩ := sortedHeap_at (vs := vs) (out := _) hl
  refine wpAny_pure ⟨_, rfl, k _ s1.heap.objs.size _ c ys (fun b u e => ?_) g1 o1 hz hc h1 (h2.trans pn) h3⟩
  have q := kp1 b u e
  have lt := Heap.lt_size q
  exact (sortedHeap_old (Nat.ne_of_lt lt) (by rw [size_push']; exact Nat.lt_succ_of_lt lt)).trans (Heap.get?_push_of_some _ q)
end
def TxO (w : World) (a : Addr) (ks : List Str) : HO := .ext fun h => TxS w h a ks
theorem txO_new {w : World} {P : Program} {H : Hp} {h : Heap} {a : Addr} {ks : List Str} (R : TxS w h a ks) : ObjOk P w H h a (TxO w a ks) := by
  have ⟨o, _, _, _, ho, _⟩ := R
  exact ⟨R, ⟨o, ho⟩, fun h1 h2 p k => TxS.at p k⟩
theorem TxS.nodup {w : World} {h : Heap} {a : Addr} {ks : List Str} (R : TxS w h a ks) : ks.Nodup := by
  obtain ⟨_, _, _, _, _, _, _, _, _, nd, _⟩ := R
  exact nd
section
variable {X : Cx} {Y : KJ X.K}
def rSetTx (K : PySem.W.Frag) (w : World) : List V → Hp → VK → Prop := fun vs H Q => ∃ v xs, vs = [v] ∧ ((∃ x, v = .str x ∧ xs = PyProof.Rows.signs x) ∨ ∃ l, v = .ref l ∧ SqL K H l (xs.map V.str)) ∧ Few xs ∧
  ∀ p ks, H p = none → ks.Nodup → (∀ k, k ∈ ks ↔ k ∈ xs) → Q (.ref p) (upd H p (TxO w p ks))
theorem strsA : ∀ {xs : List Str} {us : List Value}, Vals (xs.map V.str) us → StrsAre us xs
  | [], _, .nil => .nil
  | x :: xs, _, .cons h t => by
    obtain ⟨u, rfl⟩ := h
    exact .cons x u (strsA t)
theorem strsA_at : ∀ {xs : List Str} {us : List Value}, Vals (xs.map V.str) us → ∀ (i : Nat) (v : Value), us[i]? = some v → ∃ k t, xs[i]? = some k ∧ v = .str k t
  | [], _, .nil, i, v, h => by simp at h
  | x :: xs, _, .cons ⟨u, e⟩ t, 0, v, h => by
    simp at h
    exact ⟨x, u, rfl, by rw [← h]; exact e⟩
  | x :: xs, _, .cons _ t, i + 1, v, h => strsA_at t i v h
theorem cr_setTx (hc : X.calm = true) : CallR X (.type "set") (rSetTx X.K X.w) := by
  intro pins s σ H vs us Q I r h
  obtain ⟨v, xs, rfl, src, few, q⟩ := h
  rcases src with ⟨x, rfl, rfl⟩ | ⟨l, rfl, hl⟩
  · obtain ⟨u, rfl, ⟨t, rfl⟩⟩ := vals1 r
    refine call_setT (I.ok.hd hc) few fun h' tk ks T mem keep => ?_
    exact ⟨.ref _, upd H s.heap.objs.size (TxO X.w s.heap.objs.size ks), I.laid (t' := tk) keep (Nat.le_refl _) (txO_new T), rfl, q _ ks (I.hok.fresh (Nat.le_refl _)) T.nodup mem⟩
  · obtain ⟨its, rv, pl, _⟩ := I.list hl
    have sa : StrsAre its xs := strsA rv
    rw [Vals.ref1 r]
    refine call_setL (I.ok.hd hc) pl.isList (xs := xs) (fun i v hv => ?_) (by rw [List.size_toArray]; exact StrsAre.len_eq sa) few fun h' tk ks T mem keep => ?_
    · exact strsA_at rv i v (by simpa using hv)
    · exact ⟨.ref _, upd H s.heap.objs.size (TxO X.w s.heap.objs.size ks), I.laid (t' := tk) keep (Nat.le_refl _) (txO_new T), rfl, q _ ks (I.hok.fresh (Nat.le_refl _)) T.nodup mem⟩
def rSortTx (w : World) : List V → Hp → VK → Prop := fun vs H Q => ∃ a ks, vs = [V.ref a] ∧ H a = some (TxO w a ks) ∧ ks.length < 64 ∧
  ∀ (ys : List Str) (p : Addr), ys.Perm ks → sortedS ys = true → H p = none → Q (.ref p) (upd H p (.lst (ys.map V.str)))
theorem cr_sortTx (hc : X.calm = true) : CallR X (.builtin "sorted") (rSortTx X.w) := by
  intro pins s σ H vs us Q I r h
  obtain ⟨a, ks, rfl, ha, few, q⟩ := h
  have R : TxS X.w s.heap a ks := (I.hok a _ ha).1
  rw [Vals.ref1 r]
  refine tx_sorted R (I.ok.hd hc) few fun s1 p out c ys keep gens os hp hg are perm sorted => ?_
  have fits : (ys.map V.str).length ≤ sizeLine := by rw [List.length_map, perm.length_eq, sizeLine_eq]; omega
  have none1 : H p = none := I.hok.fresh hp
  have J : Inv X pins σ (upd H p (.lst (ys.map V.str))) { s with heap := s1.heap, gens := s1.gens, drawn := s1.drawn, toks := s1.toks } :=
    I.call (ch := []) (Un.laid keep hp none1) (I.hok.laid keep hp ⟨fits, out.toList, c, vals_of_strs are, hg⟩) (by rw [gens]; exact I.bare) (fun _ z => nomatch z)
  have e : s1 = { s with heap := s1.heap, gens := s1.gens, drawn := s1.drawn, toks := s1.toks } := by
    cases s1; cases s; cases os; rfl
  rw [e]
  exact ⟨.ref p, _, J, rfl, q ys p perm sorted none1⟩
/-- sorted(set(x)), x a text or a list of texts -/
def dSortSet (fz : Bool) (t : DTE) : DTE := fun ρ M Q => t ρ M fun d M1 => ∃ xs : List Str, ((∃ x, d = .str x ∧ xs = PyProof.Rows.signs x) ∨ lstOf M1 d = some (xs.map DL.D.str)) ∧ Few xs ∧
  ∀ ys : List Str, ys.Nodup → (∀ k, k ∈ ys ↔ k ∈ xs) → sortedS ys = true → newL fz (ys.map DL.D.str) M1 Q
variable {e : Expr} {t : DTE} {p p1 p2 pos : Pos}
theorem de_sortSet (fz : Bool) (m1 : X.mg "sorted" = none) (m2 : X.mg "set" = none) (he : DE X Y e t) (hc : X.calm = true := by rfl) (g1 : Gl X "sorted" := by rfl) (g2 : Gl X "set" := by rfl)
    (na : starEach [e] X.env = (false, eval e X.env) :: starEach [] X.env := by rfl) (nb : (backTo p2 (starEach [] X.env)).any (·.1) = false := by rfl)
    (na2 : starEach [.Call (.Name "set" p1) [e] [] p2] X.env = (false, eval (.Call (.Name "set" p1) [e] [] p2) X.env) :: starEach [] X.env := by rfl) (nb2 : (backTo pos (starEach [] X.env)).any (·.1) = false := by rfl) :
    DE X Y (.Call (.Name "sorted" p) [.Call (.Name "set" p1) [e] [] p2] [] pos) (dSortSet fz t) := by
  have b1 : bootBuiltins "sorted" = some (.builtin "sorted") := by decide +kernel
  have b2 : bootBuiltins "set" = some (.type "set") := by decide +kernel
  refine PE.weak (pe_callB (cr_sortTx hc) g1 m1 b1 (pa_cons (pe_callTy (cr_setTx hc) g2 m2 b2 (pa_cons he pa_nil na) (by decide) (by decide) na nb) pa_nil na2) (by decide) (by decide) na2 nb2) ?_
  rintro σ H Q0 ⟨F, M, ρ, Q, rs, rl, q, k⟩
  refine ⟨F, M, ρ, _, rs, rl, q, fun v d F1 M1 H1 s1 rp ⟨xs, src, few, q1⟩ => ?_⟩
  have go : ∀ p ks, H1 p = none → ks.Nodup → (∀ k, k ∈ ks ↔ k ∈ xs) → rSortTx X.w [.ref p] (upd H1 p (TxO X.w p ks)) Q0 := by
    intro p ks hp nd mem
    have s2 := s1.rel.newF hp (TxO X.w p ks)
    refine ⟨p, ks, rfl, upd_same, few ks nd fun k hk => (mem k).mp hk, fun ys p' pm so hp' => ?_⟩
    have g := q1 ys (pm.nodup_iff.mpr nd) (fun k => (pm.mem_iff).trans (mem k)) so
    exact newL_ok s2.rel (of_strs ys) g (fun v z F' M' H' s3 => k v z F' M' H' ((s1.trans s2).trans s3)) p' hp'
  rcases src with ⟨x, rfl, rfl⟩ | src
  · cases rp
    exact ⟨_, _, rfl, .inl ⟨x, rfl, rfl⟩, few, go⟩
  · obtain ⟨a, vs, rfl, h1, ra⟩ := lstOf_rp s1.rel rp src
    rw [rp_strs ra] at h1
    exact ⟨_, xs, rfl, .inr ⟨a, rfl, h1⟩, few, go⟩
end
end DL

/-! DL9: sorted of texts, list(text), a constant dict, slices with a step. -/
namespace DL
open PySem PySem.Spec L2
open PyProof.Rows hiding St

section
variable {X : Cx} {Y : KJ X.K} {pos p p1 p2 p3 : Pos} {a b e : Expr} {t u : DTE}
/-- sorted(a list of texts), fewer than 64 -/
def rSortD (fz : Bool) : RDL := fun ds M Q => ∃ (d : DL.D) (xs : List Str), ds = [d] ∧ lstOf M d = some (xs.map DL.D.str) ∧ xs.length < 64 ∧
  ∀ ys : List Str, ys.Perm xs → sortedS ys = true → newL fz (ys.map DL.D.str) M Q
theorem cd_sort (fz : Bool) : CallD X Y (.builtin "sorted") (rSortD fz) := by
  intro pins s σ H vs us Q0 I r ⟨F, M, ds, Q, rp, rl, ⟨d, xs, e, e1, few, q⟩, k⟩
  subst e
  obtain ⟨v, rfl, r1⟩ := rp1 rp
  obtain ⟨l, ws, rfl, h1, ra⟩ := lstOf_rp rl r1 e1
  rw [rp_strs ra] at h1
  exact cr_sortedS pins s σ H _ us Q0 I r ⟨l, xs, rfl, h1, few, fun ys n pm so hn => newL_ok rl (of_strs ys) (q ys pm so) k n hn⟩
/-- list(a text) -/
def rListS (fz : Bool) : RDL := fun ds M Q => ∃ x : Str, ds = [.str x] ∧ x.cps.size ≤ sizeLine ∧ newL fz (signs x) M Q
theorem signs_rp {K : PySem.W.Frag} {F : Hp} (x : Str) : RpAll K F (x.cps.toList.map fun c => V.str ⟨#[c]⟩) (signs x) := by
  unfold signs
  generalize x.cps.toList = l
  induction l with
  | nil => exact .nil
  | cons c l ih => exact .cons (.str _) ih
theorem cd_listS (fz : Bool) (hc : X.calm = true) : CallD X Y (.type "list") (rListS fz) := by
  intro pins s σ H vs us Q0 I r ⟨F, M, ds, Q, rp, rl, ⟨x, e, small, q⟩, k⟩
  subst e
  obtain ⟨v, rfl, r1⟩ := rp1 rp
  cases r1
  obtain ⟨u, rfl, ⟨t, rfl⟩⟩ := vals1 r
  refine call_list_str (I.ok.hd hc) x t (hn := small) fun h' tk acc c keep at1 ⟨len, are⟩ => ?_
  have vals : Vals (x.cps.toList.map fun c => V.str ⟨#[c]⟩) acc.toList := by
    refine vals_of_at (by simp [len]) fun i v w hv hw => ?_
    rw [Array.getElem?_toList] at hw
    obtain ⟨c, t, hc, rfl⟩ := are i w hw
    rw [List.getElem?_map, Array.getElem?_toList, hc] at hv
    cases hv
    exact ⟨t, rfl⟩
  refine ⟨.ref _, upd H s.heap.objs.size (.lst (x.cps.toList.map fun c => V.str ⟨#[c]⟩)), I.laid (t' := tk) keep (Nat.le_refl _) ⟨?_, acc.toList, c, vals, ?_⟩, rfl, newL_ok rl (signs_rp x) q k _ (I.hok.fresh (Nat.le_refl _))⟩
  · rw [List.length_map, Array.length_toList]; exact small
  · exact at1
end
end DL

/-! DL10: slices with a step, a constant dict. -/
namespace DL
open PySem PySem.Spec L2
open PyProof.Rows hiding St

/-! ### lists -/
theorem fm_congr {α β : Type} {f g : α → Option β} : ∀ {l : List α}, (∀ k ∈ l, f k = g k) → l.filterMap f = l.filterMap g
  | [], _ => rfl
  | x :: l, h => by
    have ih := fm_congr (l := l) fun k hk => h k (List.mem_cons_of_mem _ hk)
    rw [List.filterMap_cons, List.filterMap_cons, h x List.mem_cons_self, ih]
/-- every other item, from the first -/
def ev {α : Type} : List α → List α
  | [] => []
  | [x] => [x]
  | x :: _ :: r => x :: ev r
theorem ev_pick {α : Type} : ∀ l : List α, ((List.range ((l.length + 1) / 2)).map fun k => 2 * k).filterMap (l[·]?) = ev l
  | [] => by simp [ev]
  | [x] => by simp [ev]
  | x :: y :: r => by
    have ih := ev_pick r
    have e : ((x :: y :: r).length + 1) / 2 = (r.length + 1) / 2 + 1 := by simp only [List.length_cons]; omega
    rw [e, List.range_succ_eq_map, List.map_cons, List.map_map, List.filterMap_cons]
    show x :: _ = x :: ev r
    rw [← ih, List.filterMap_map, List.filterMap_map]
    refine congrArg (x :: ·) (fm_congr fun k _ => ?_)
    show (x :: y :: r)[2 * (k + 1)]? = r[2 * k]?
    rw [show 2 * (k + 1) = 2 * k + 1 + 1 by omega, List.getElem?_cons_succ, List.getElem?_cons_succ]
theorem back_pick {α : Type} : ∀ l : List α, ((List.range l.length).map fun k => l.length - 1 - k).filterMap (l[·]?) = l.reverse := by
  intro l
  generalize hm : l.reverse = m
  have hl : l = m.reverse := by rw [← hm, List.reverse_reverse]
  subst hl
  clear hm
  induction m with
  | nil => rfl
  | cons x m ih =>
    rw [List.filterMap_map] at ih ⊢
    rw [List.length_reverse] at ih ⊢
    rw [List.length_cons, List.range_succ_eq_map, List.filterMap_cons, List.filterMap_map]
    have e0 : ((fun i => (x :: m).reverse[i]?) ∘ fun k => m.length + 1 - 1 - k) 0 = some x := by
      show (x :: m).reverse[m.length + 1 - 1 - 0]? = some x
      rw [List.reverse_cons, List.getElem?_append_right (by rw [List.length_reverse]; omega), List.length_reverse]
      simp
    rw [e0]
    refine congrArg (x :: ·) (Eq.trans (fm_congr fun k hk => ?_) ih)
    have hk' := List.mem_range.mp hk
    show (x :: m).reverse[m.length + 1 - 1 - (k + 1)]? = m.reverse[m.length - 1 - k]?
    rw [List.reverse_cons, List.getElem?_append_left (by rw [List.length_reverse]; omega)]
    exact congrArg (m.reverse[·]?) (by omega)
theorem rng_two (n : Nat) : sliceRange 0 (n : Int) 2 = (List.range ((n + 1) / 2)).map fun k => 2 * k := by
  unfold sliceRange
  by_cases h : (0 : Int) < (n : Int)
  · have e : (((n : Int) - 0 + 2 - 1) / 2).toNat = (n + 1) / 2 := by omega
    simp only [show (2 : Int) > 0 from by decide, if_true, h, e]
    exact List.map_congr_left fun k _ => by omega
  · obtain rfl : n = 0 := by omega
    simp
theorem rng_odd (n : Nat) : sliceRange (min 1 (n : Int)) (n : Int) 2 = (List.range (((n - 1) + 1) / 2)).map fun k => 2 * k + 1 := by
  unfold sliceRange
  by_cases h : (1 : Int) < (n : Int)
  · have e1 : min (1 : Int) (n : Int) = 1 := by omega
    have e : (((n : Int) - 1 + 2 - 1) / 2).toNat = (n - 1 + 1) / 2 := by omega
    rw [e1]
    simp only [show (2 : Int) > 0 from by decide, if_true, h, e]
    exact List.map_congr_left fun k _ => by omega
  · rcases (show n = 0 ∨ n = 1 by omega) with rfl | rfl <;> rfl
theorem rng_back (n : Nat) : sliceRange ((n : Int) - 1) (-1) (-1) = (List.range n).map fun k => n - 1 - k := PySem.W.krv_sliceRange n
theorem pick_ev (its : Array Value) : slicePick its none none (some 2) = (ev its.toList).toArray := by
  have b : sliceBounds none none (some 2) its.size = (0, (its.size : Int), 2) := by first | rfl | simp [sliceBounds]
  unfold slicePick
  rw [b]
  show ((sliceRange 0 (its.size : Int) 2).filterMap (its[·]?)).toArray = _
  rw [rng_two, ← ev_pick its.toList, Array.length_toList]
  simp only [Array.getElem?_toList]
theorem pick_od (its : Array Value) : slicePick its (some 1) none (some 2) = (ev its.toList.tail).toArray := by
  have b : sliceBounds (some 1) none (some 2) its.size = (min 1 (its.size : Int), (its.size : Int), 2) := by
    simp only [sliceBounds]
    first | rfl | (simp; omega) | simp
  unfold slicePick
  rw [b]
  show ((sliceRange (min 1 (its.size : Int)) (its.size : Int) 2).filterMap (its[·]?)).toArray = _
  have l : its.toList.tail.length = its.size - 1 := by simp
  rw [rng_odd, ← ev_pick its.toList.tail, l, List.filterMap_map, List.filterMap_map]
  refine congrArg _ (fm_congr fun k _ => ?_)
  show its[2 * k + 1]? = its.toList.tail[2 * k]?
  rw [List.getElem?_tail, Array.getElem?_toList]
theorem RpAll.ev {K : PySem.W.Frag} {F : Hp} : ∀ {vs : List V} {ds : List DL.D}, RpAll K F vs ds → RpAll K F (DL.ev vs) (DL.ev ds)
  | _, _, .nil => .nil
  | _, _, .cons h .nil => .cons h .nil
  | _, _, .cons h (.cons _ t) => .cons h (RpAll.ev t)
theorem vals_ev : ∀ {vs : List V} {us : List Value}, Vals vs us → Vals (DL.ev vs) (DL.ev us)
  | _, _, .nil => .nil
  | _, _, .cons h .nil => .cons h .nil
  | _, _, .cons h (.cons _ t) => .cons h (vals_ev t)
theorem ev_length {α : Type} : ∀ l : List α, (ev l).length = (l.length + 1) / 2
  | [] => by simp [ev]
  | [_] => by simp [ev]
  | _ :: _ :: r => by
    show (ev r).length + 1 = (r.length + 1 + 1 + 1) / 2
    rw [ev_length r]; omega
theorem ev_mem {α : Type} {x : α} : ∀ {l : List α}, x ∈ ev l → x ∈ l
  | [], h => h
  | [_], h => h
  | y :: _ :: r, h => by
    cases List.mem_cons.mp h with
    | inl e => rw [e]; exact List.mem_cons_self
    | inr e => exact List.mem_cons_of_mem _ (List.mem_cons_of_mem _ (ev_mem e))
theorem vals_tail {vs : List V} {us : List Value} (h : Vals vs us) : Vals vs.tail us.tail := by
  cases h with
  | nil => exact .nil
  | cons a b => exact b
theorem RpAll.tail {K : PySem.W.Frag} {F : Hp} {vs : List V} {ds : List DL.D} (h : RpAll K F vs ds) : RpAll K F vs.tail ds.tail := by
  cases h with
  | nil => exact .nil
  | cons a b => exact b

/-! ### the slice -/
section
variable {X : Cx} {Y : KJ X.K} {pos p p1 p2 p3 : Pos} {a b e st : Expr} {t u : DTE} {lo hi : Option Expr}
/-- what holds of x[lo:hi:st] when its parts are known -/
def Sl3R (X : Cx) (l h k : Option Int) (r : V → Hp → VK → Prop) : Prop :=
  ∀ (pins : List (Addr × Obj)) (s : Shared) (σ : St) (H : Hp) (x : V) (v vl vu vs : Value) (sl : Addr) (Q : VK), Inv X pins σ H s → RelV x v → s.heap.IsSliceOf sl vl vu vs → IsPart vl l → IsPart vu h → IsPart vs k → r x H Q →
    ∃ T id, typeLookup (.type T) "__getitem__" = pure (some (.builtin id)) ∧ s.TypeIs v T ∧ wpAny (model X.prog X.w) X.A (getItem v (.ref sl)) (EP X pins σ Q) X.xe s
theorem pe_slice3 {l h : Option Int} {k : Int} {r : V → Hp → VK → Prop} {te : TE} (hr : Sl3R X l h (some k) r) (he : PE X e te) (hl : PO X lo (fun _ H Q => Q l H)) (hu : PO X hi (fun _ H Q => Q h H)) (hs : PO X (some st) (fun _ H Q => Q (some k) H)) :
    PE X (.Subscript e (.Slice lo hi (some st) p2) pos) (fun σ H Q => te σ H fun x H1 => r x H1 Q) := by
  refine ⟨fun pins s σ H Q I q => Subscript_ (thn (he.run pins s σ H _ I q) fun v s1 ⟨x, H1, I1, r1, q1⟩ => ?_)⟩
  refine wpAny_Slice (thn (hl.run pins s1 σ H1 (fun o H2 => o = l ∧ H2 = H1) I1 ⟨rfl, rfl⟩) fun vl s2 ⟨_, H2, I2, pl, el, e2⟩ => ?_)
  subst el e2
  refine thn (hu.run pins s2 σ H2 (fun o H3 => o = h ∧ H3 = H2) I2 ⟨rfl, rfl⟩) fun vu s3 ⟨_, H3, I3, pu, eu, e3⟩ => ?_
  subst eu e3
  refine thn (hs.run pins s3 σ H3 (fun o H4 => o = some k ∧ H4 = H3) I3 ⟨rfl, rfl⟩) fun vs s4 ⟨_, H4, I4, ps, es, e4⟩ => ?_
  subst es e4
  have I5 : Inv X pins σ H4 { s4 with heap := s4.heap.push { cls := .type "slice", data := .fields #[vl, vu, vs] } } := I4.kept (t' := s4.toks) fun b ob z => Heap.get?_push_of_some _ z
  obtain ⟨T, id, hT, ht, hg⟩ := hr pins _ σ H4 x v vl vu vs s4.heap.objs.size Q I5 r1 (Heap.IsSliceOf.new _ vl vu vs) pl pu ps q1
  show wpAny (model X.prog X.w) X.A (subscriptTail e (.Slice lo hi (some st) p2) v (.ref s4.heap.objs.size)) (EP X pins σ Q) X.xe _
  exact tail_any (ops := [v, .ref s4.heap.objs.size]) ht hT hg (by with_unfolding_all rfl)
theorem po_c (i : Int) {c : Expr} (h : PE X c (tC (.int i))) : PO X (some c) (fun _ H Q => Q (some i) H) := by
  refine ⟨fun pins s σ H Q I q => ?_⟩
  exact (po_some h).run pins s σ H Q I ⟨i, rfl, q⟩
theorem po_n : PO X none (fun _ H Q => Q none H) := ⟨fun pins s σ H Q I q => po_none.run pins s σ H Q I q⟩
theorem sl3_list {l h : Option Int} {k : Int} {f : List V → List V} {g : List Value → List Value} (k0 : k ≠ 0) (hf : ∀ its : List Value, slicePick its.toArray l h (some k) = (g its).toArray) (hv : ∀ {vs us}, Vals vs us → Vals (f vs) (g us)) (hz : ∀ vs, (f vs).length ≤ vs.length) :
    Sl3R X l h (some k) (fun x H Q => ∃ a xs, x = .ref a ∧ SqL X.K H a xs ∧ ∀ p, H p = none → Q (.ref p) (upd H p (.lst (f xs)))) := by
  rintro pins s σ H x v vl vu vs sl Q I rx hs pl pu ps ⟨a, xs, rfl, hx, q⟩
  cases rx
  obtain ⟨its, r, ht, small⟩ := I.list hx
  have len := r.length
  refine ⟨"list", _, slot_list_getitem.lookup, ht.isList.typeIs, ?_⟩
  refine wpAny_getItem_list_slice ht.isList hs pl pu ps (fun z => k0 (Option.some.inj z)) ?_ (by rw [List.size_toArray]; omega)
  rw [hf]
  refine ⟨.ref _, _, I.laid (t' := s.toks) (o := .lst (f xs)) (fun b ob z => Heap.get?_push_of_some _ z) (Nat.le_refl _) ?_, rfl, q _ (I.hok.fresh (Nat.le_refl _))⟩
  exact ⟨Nat.le_trans (hz xs) small, _, 0, hv r, Heap.get?_push_size _ rfl⟩
/-- x[::2], x[1::2] of a list -/
def dEv (fz : Bool) (f : List DL.D → List DL.D) (t : DTE) : DTE := fun ρ M Q => t ρ M fun d M1 => ∃ xs, lstOf M1 d = some xs ∧ newL fz (f xs) M1 Q
theorem can_ev {fz : Bool} {f : List DL.D → List DL.D} {g : List V → List V} (hr : ∀ {F vs ds}, RpAll X.K F vs ds → RpAll X.K F (g vs) (f ds)) {σ : St} {H : Hp} {Q0 : VK} (q : canE Y (dEv fz f t) σ H Q0) :
    canE Y t σ H fun x H1 => ∃ a xs, x = .ref a ∧ SqL X.K H1 a xs ∧ ∀ p, H1 p = none → Q0 (.ref p) (upd H1 p (.lst (g xs))) := by
  obtain ⟨F, M, ρ, Q, rs, rl, q, k⟩ := q
  refine ⟨F, M, ρ, _, rs, rl, q, fun v d F1 M1 H1 s1 rp ⟨xs, e1, q1⟩ => ?_⟩
  obtain ⟨l, vs, rfl, h1, ra⟩ := lstOf_rp s1.rel rp e1
  exact ⟨l, vs, rfl, h1, fun p hp => newL_ok s1.rel (hr ra) q1 (fun v z F' M' H' s => k v z F' M' H' (s1.trans s)) p hp⟩
theorem de_step2_0 (fz : Bool) {kd : Nat} (he : DE X Y e t) : DE X Y (.Subscript e (.Slice none none (some (.Constant (.int 2) kd p1)) p2) pos) (dEv fz ev t) := by
  refine PE.weak (pe_slice3 (sl3_list (f := ev) (g := ev) (by decide) (fun its => pick_ev its.toArray) vals_ev (fun vs => by rw [ev_length]; omega)) he po_n po_n (po_c 2 pe_int)) fun σ H Q0 q => can_ev RpAll.ev q
theorem de_step2_1 (fz : Bool) {kd kd2 : Nat} (he : DE X Y e t) : DE X Y (.Subscript e (.Slice (some (.Constant (.int 1) kd2 p3)) none (some (.Constant (.int 2) kd p1)) p2) pos) (dEv fz (fun xs => ev xs.tail) t) := by
  refine PE.weak (pe_slice3 (sl3_list (f := fun xs => ev xs.tail) (g := fun xs => ev xs.tail) (by decide) (fun its => pick_od its.toArray) (fun r => vals_ev (vals_tail r)) (fun vs => by rw [ev_length, List.length_tail]; omega)) he (po_c 1 pe_int) po_n (po_c 2 pe_int)) fun σ H Q0 q => can_ev (fun r => r.tail.ev) q
end
/-! ### x[::-1] of a tuple, of a text -/
theorem getItem_tuple_back {P : Program} {w : World} {A : Around} {E : Value → Shared → Prop} {s : Shared} {t sl : Addr} {items : Array Value} {vl vu vs : Value} {Q : Value → Shared → Prop} (ht : IsTup s.heap t items) (hs : s.heap.IsSliceOf sl vl vu vs) (pl : IsPart vl none) (pu : IsPart vu none) (pk : IsPart vs (some (-1)))
    (small : items.size ≤ sizeLine) (h : Q (.ref s.heap.objs.size) { s with heap := s.heap.push { cls := .type "tuple", data := .seq items.toList.reverse.toArray } }) : wpAny (model P w) A (getItem (.ref t) (.ref sl)) Q E s := by
  obtain ⟨os, hos, hcs, hds⟩ := id hs
  have isSl : s.TypeIs (.ref sl) "slice" := ⟨os, hos, hcs⟩
  unfold getItem
  try with_reducible refine wpAny_holding ?_
  first | refine wpAny_bind (wpAny_pure ?_) | skip
  refine wpAny_bind (wpAny_sequenceKey ht.typeIs (by decide) (wpAny_bind (wpAny_callSpecial?_slot (name := Str.ofString "__getitem__") ht.typeIs PyProof.Rows.slot_tuple_getitem
    (wpAny_call_entry PyProof.Rows.slot_tuple_getitem ht.typeIs entry_tuple_getitem ?_ (args_tuple_getitem _ _)))))
  refine wpAny_bind (m := Builtin.Tuple.tupleItemsOf (.ref t)) (tupleItemsOf_ ht (wpAny_bind (wpAny_typeOf isSl ?_)))
  rw [if_pos (by decide)]
  have places : Builtin.Slice.slicePlaces ((items.size : Int) - 1) (-1) (-1) = items.size := by
    unfold Builtin.Slice.slicePlaces
    by_cases z : (items.size : Int) - 1 > -1
    · simp only [show ¬ ((-1 : Int) > 0) from by decide, if_false, z, if_true]
      rw [show (- -1 : Int) = 1 from rfl, Int.ediv_one]
      omega
    · simp only [show ¬ ((-1 : Int) > 0) from by decide, if_false, z]
      omega
  refine wpAny_bind (m := Builtin.Slice.sliceApplied (.ref sl) (pure (items.size : Int))) ?_
  unfold Builtin.Slice.sliceApplied Builtin.Slice.sliceFields
  refine wpAny_bind (wpAny_bind (wpAny_field hos hds (x := vl) rfl (wpAny_bind (wpAny_field hos hds (x := vu) rfl (wpAny_bind (wpAny_field hos hds (x := vs) rfl (wpAny_pure ?_)))))))
  refine wpAny_bind (HT.slicePart_ pk ?_)
  show wpAny _ _ (if ((-1 : Int) == 0) = true then _ else _) _ _ s
  rw [if_neg (by decide)]
  refine wpAny_bind (HT.slicePart_ pl (wpAny_bind (HT.slicePart_ pu (wpAny_bind (wpAny_pure ?_)))))
  have adj : Builtin.Slice.sliceAdjust none none (-1) (items.size : Int) = ((items.size : Int) - 1, -1) := by first | rfl | simp [Builtin.Slice.sliceAdjust]
  show wpAny _ _ (match Builtin.Slice.sliceAdjust none none (-1) (items.size : Int) with | (lo, hi) => pure (lo, (-1 : Int), Builtin.Slice.slicePlaces lo hi (-1))) _ _ s
  rw [adj]
  show wpAny _ _ (pure ((items.size : Int) - 1, (-1 : Int), Builtin.Slice.slicePlaces ((items.size : Int) - 1) (-1) (-1))) _ _ s
  rw [places]
  refine wpAny_pure ?_
  have notAll : ¬ ((((items.size : Int) - 1) == 0 && (-1 : Int) == 1 && items.size == items.size) = true) := by
    intro z
    rw [Bool.and_eq_true, Bool.and_eq_true] at z
    exact absurd z.1.2 (by decide)
  show wpAny _ _ (if (((items.size : Int) - 1) == 0 && (-1 : Int) == 1 && items.size == items.size) = true then _ else _) _ _ s
  have picked : ((List.range items.size).filterMap fun (m : Nat) => items[((items.size : Int) - 1 + (m : Int) * -1).toNat]?).toArray = items.toList.reverse.toArray := by
    have q := back_pick items.toList
    rw [List.filterMap_map, Array.length_toList] at q
    rw [← q]
    refine congrArg _ (fm_congr fun m hm => ?_)
    show _ = items.toList[items.size - 1 - m]?
    rw [Array.getElem?_toList]
    exact congrArg (items[·]?) (by omega)
  rw [if_neg notAll, picked]
  have fits : sizeOk (.seq items.toList.reverse.toArray) := by
    show items.toList.reverse.toArray.size ≤ sizeLine
    rw [List.size_toArray, List.length_reverse, Array.length_toList]; exact small
  first
    | exact wpAny_bind (m := Builtin.Tuple.tupleExact _) (wpAny_newObj_type (wpAny_pure ⟨_, rfl, wpAny_pure h⟩) fits)
    | exact wpAny_bind (m := Builtin.Tuple.tupleExact _) (wpAny_newObj_type (wpAny_bind (wpAny_pure (wpAny_pure ⟨_, rfl, wpAny_pure h⟩))) fits)
    | exact wpAny_bind (wpAny_bind (m := Builtin.Tuple.tupleExact _) (wpAny_newObj_type (wpAny_pure (wpAny_pure ⟨_, rfl, wpAny_pure h⟩)) fits))
    | exact wpAny_bind (wpAny_bind (m := Builtin.Tuple.tupleExact _) (wpAny_newObj_type (wpAny_pure ⟨_, rfl, wpAny_pure h⟩) fits))
theorem sl3_tupB {X : Cx} {Y : KJ X.K} : Sl3R X none none (some (-1)) (fun x H Q => ∃ a xs, x = .ref a ∧ SqT X.K H a xs ∧ ∀ p, H p = none → Q (.ref p) (upd H p (.tup xs.reverse))) := by
  rintro pins s σ H x v vl vu vs sl Q I rx hs pl pu ps ⟨a, xs, rfl, hx, q⟩
  cases rx
  obtain ⟨its, r, ht, small⟩ := I.tuple hx
  have len := r.length
  refine ⟨"tuple", _, PyProof.Rows.slot_tuple_getitem.lookup, ht.typeIs, ?_⟩
  refine getItem_tuple_back ht hs pl pu ps (by rw [List.size_toArray]; omega) ?_
  refine ⟨.ref s.heap.objs.size, _, I.laid (t' := s.toks) (o := .tup xs.reverse) (fun b ob z => Heap.get?_push_of_some _ z) (Nat.le_refl _) ?_, rfl, q _ (I.hok.fresh (Nat.le_refl _))⟩
  exact ⟨by rw [List.length_reverse]; exact small, _, r.reverse, IsTup.new _ _⟩
def revT (z : Str) : Str := ⟨z.cps.toList.reverse.toArray⟩
theorem sl3_strB {X : Cx} {Y : KJ X.K} : Sl3R X none none (some (-1)) (fun x H Q => ∃ z, x = .str z ∧ z.length ≤ sizeLine ∧ Q (.str (revT z)) H) := by
  rintro pins s σ H x v vl vu vs sl Q I rx hs pl pu ps ⟨z, rfl, small, q⟩
  obtain ⟨t, rfl⟩ := rx
  obtain ⟨os, hos, hcs, hds⟩ := hs
  obtain ⟨l, rfl, el⟩ := IsPart.raw pl
  obtain ⟨u, rfl, eu⟩ := IsPart.raw pu
  obtain ⟨k, rfl, ek⟩ := IsPart.raw ps
  refine ⟨"str", _, F.slot_str_getitem.lookup, typeIs_str _ _ _, ?_⟩
  refine wpAny_getItem_str_slice (l := l) (u := u) (st := k) ⟨os, hos, hcs, hds⟩ (by rw [ek]; rfl) ?_
  have e : slicePicked z l u k = (List.range z.cps.toList.length).map fun k => z.cps.toList.length - 1 - k := by
    unfold slicePicked
    rw [el, eu, ek, Array.length_toList]
    exact rng_back z.cps.size
  have made : sliceMade z t l u k = .str (revT z) := by
    unfold sliceMade
    rw [ek]
    rw [if_neg (by simp), e]
    unfold revT
    rw [← back_pick z.cps.toList]
    simp only [Array.getElem?_toList]
  rw [made]
  refine ⟨?_, ⟨.str (revT z), H, I.tok _, ⟨_, rfl⟩, q⟩⟩
  show z.cps.toList.reverse.toArray.size ≤ sizeLine
  rw [List.size_toArray, List.length_reverse, Array.length_toList]; exact small
end DL

/-! DL11: x[::-1]; a constant dict of numbers by texts. -/
namespace DL
open PySem PySem.Spec L2
open PyProof.Rows hiding St

section
variable {X : Cx} {Y : KJ X.K} {pos p p1 p2 p3 : Pos} {a b e st : Expr} {t u : DTE}
def rRev (fz : Bool) : DL.D → Mp → DK → Prop
  | .str z, M, Q => z.length ≤ sizeLine ∧ Q (.str (revT z)) M
  | .tup xs, M, Q => Q (.tup xs.reverse) M
  | x, M, Q => ∃ xs, lstOf M x = some xs ∧ newL fz xs.reverse M Q
def dRevS (fz : Bool) (t : DTE) : DTE := fun ρ M Q => t ρ M fun d M1 => rRev fz d M1 Q
theorem Sl3R.or {l h k : Option Int} {r1 r2 : V → Hp → VK → Prop} (a : Sl3R X l h k r1) (b : Sl3R X l h k r2) : Sl3R X l h k (fun x H Q => r1 x H Q ∨ r2 x H Q) := by
  intro pins s σ H x v vl vu vs sl Q I rx hs pl pu ps q
  rcases q with q | q
  · exact a pins s σ H x v vl vu vs sl Q I rx hs pl pu ps q
  · exact b pins s σ H x v vl vu vs sl Q I rx hs pl pu ps q
theorem de_revS (fz : Bool) {kd : Nat} (he : DE X Y e t) : DE X Y (.Subscript e (.Slice none none (some (.UnaryOp .USub (.Constant (.int 1) kd p1) p3)) p2) pos) (dRevS fz t) := by
  have hst : PO X (some (.UnaryOp .USub (.Constant (.int 1) kd p1) p3)) (fun _ H Q => Q (some (-1)) H) := by
    refine ⟨fun pins s σ H Q I q => ?_⟩
    exact (po_some (pe_un un_neg pe_int)).run pins s σ H Q I ⟨1, rfl, -1, rfl, q⟩
  have hl : Sl3R X none none (some (-1)) (fun x H Q => ∃ a xs, x = .ref a ∧ SqL X.K H a xs ∧ ∀ p, H p = none → Q (.ref p) (upd H p (.lst xs.reverse))) :=
    sl3_list (f := List.reverse) (g := List.reverse) (by decide) (fun its => PySem.W.krv_pick its.toArray) (fun r => r.reverse) (fun vs => by rw [List.length_reverse]; exact Nat.le_refl _)
  refine PE.weak (pe_slice3 (hl.or ((sl3_tupB (Y := Y)).or (sl3_strB (Y := Y)))) he po_n po_n hst) ?_
  rintro σ H Q0 ⟨F, M, ρ, Q, rs, rl, q, k⟩
  refine ⟨F, M, ρ, _, rs, rl, q, fun v d F1 M1 H1 s1 rp q1 => ?_⟩
  have k1 : ∀ v d F' M' H', Stp Y F1 M1 H1 F' M' H' → Rp X.K F' v d → Q d M' → Q0 v H' := fun v d F' M' H' s => k v d F' M' H' (s1.trans s)
  unfold rRev at q1
  split at q1
  · cases rp
    exact .inr (.inr ⟨_, rfl, q1.1, k1 _ _ F1 M1 H1 (Stp.refl s1.rel) (.str _) q1.2⟩)
  · cases rp with
    | tup sq ra =>
      exact .inr (.inl ⟨_, _, rfl, Same.tseq s1.rel.sub sq, fun p hp => newT_ok s1.rel ra.reverse q1 k1 p hp⟩)
  · obtain ⟨xs, e1, q1⟩ := q1
    obtain ⟨p, vs, rfl, h1, ra⟩ := lstOf_rp s1.rel rp e1
    exact .inl ⟨p, vs, rfl, h1, fun p hp => newL_ok s1.rel ra.reverse q1 k1 p hp⟩

/-! ### a constant dict -/
def kvE (kvs : List (Str × Int)) : List (TE × TE) := kvs.map fun kv => (tC (.str kv.1), tC (.int kv.2))
def kvV (kvs : List (Str × Int)) : List (Key × V) := kvs.map fun kv => (Sum.inr kv.1, V.int kv.2)
theorem tp_const {σ : St} {H : Hp} : ∀ {kvs : List (Str × Int)} {Q : List (V × V) → Hp → Prop}, Q (kvs.map fun kv => (V.str kv.1, V.int kv.2)) H → tPairs (kvE kvs) σ H Q
  | [], _, h => h
  | kv :: kvs, Q, h => tp_const (kvs := kvs) (Q := fun ps H3 => Q ((V.str kv.1, V.int kv.2) :: ps) H3) h
def dDictC (kvs : List (Str × Int)) : DTE := dC (.dct (kvs.map fun kv => Sum.inr kv.1) (kvs.map fun kv => .int kv.2))
theorem zip_kvV : ∀ kvs : List (Str × Int), (kvs.map fun kv => (Sum.inr kv.1 : Key)).zip (kvs.map fun kv => V.int kv.2) = kvV kvs
  | [] => rfl
  | kv :: kvs => by
    rw [List.map_cons, List.map_cons, List.zip_cons_cons, zip_kvV kvs]
    rfl
theorem of_kvV {K : PySem.W.Frag} {F : Hp} : ∀ kvs : List (Str × Int), RpAll K F (kvs.map fun kv => V.int kv.2) (kvs.map fun kv => D.int kv.2)
  | [] => .nil
  | kv :: kvs => .cons (.int _) (of_kvV kvs)
theorem de_dictC {keys : List (Option Expr)} {values : List Expr} (kvs : List (Str × Int)) (h : PPs X pos keys values (kvE kvs)) (hm : mergeK [] (kvV kvs) = kvV kvs) (hall : keys.all (·.isSome) = true := by rfl) (hl : keys.length = values.length := by rfl) (h0 : keys ≠ [] := by simp)
    (h15 : keys.length ≤ 15 := by decide) (few : kvs.length ≤ 15 := by decide) : DE X Y (.Dict keys values pos) (dDictC kvs) := by
  refine PE.weak (pe_disp h hall hl h0 h15) ?_
  rintro σ H Q0 ⟨F, M, ρ, Q, rs, rl, q, k⟩
  intro p hp
  refine tp_const ⟨upd_same, kvV kvs, ?_, by unfold kvV; rw [List.length_map]; exact few, ?_⟩
  · unfold kvV; rw [List.map_map]; rfl
  · rw [hm, L2.upd_upd]
    have s1 := rl.newF hp (.dK (kvV kvs))
    refine k _ _ _ M _ s1 (.dct (ks := kvs.map fun kv : Str × Int => (Sum.inr kv.1 : Key)) (xs := kvs.map fun kv : Str × Int => V.int kv.2) ?_ (by rw [List.length_map, List.length_map]) (of_kvV kvs)) q
    rw [zip_kvV]; exact upd_same
/-- what stands behind a key -/
def lkD (k : Int ⊕ Str) : List (Int ⊕ Str) → List DL.D → Option DL.D
  | j :: ks, d :: ds => if j = k then some d else lkD k ks ds
  | _, _ => none
theorem lk_rp {K : PySem.W.Frag} {F : Hp} (k : Key) : ∀ {ks : List Key} {vs : List V} {ds : List DL.D}, RpAll K F vs ds → ks.length = vs.length →
    (lkD k ks ds = none ∧ valV (ks.zip vs) k = none) ∨ ∃ d v, lkD k ks ds = some d ∧ valV (ks.zip vs) k = some v ∧ Rp K F v d
  | [], _, _, .nil, _ => .inl ⟨rfl, rfl⟩
  | _ :: _, _, _, .nil, h => by simp at h
  | [], _, _, .cons _ _, h => by simp at h
  | j :: ks, v :: vs, d :: ds, .cons a b, h => by
    by_cases e : j = k
    · exact .inr ⟨d, v, if_pos e, valV_pos e, a⟩
    · rcases lk_rp k (ks := ks) b (by simpa using h) with ⟨h1, h2⟩ | ⟨d', v', h1, h2, h3⟩
      · exact .inl ⟨(if_neg e).trans h1, (valV_neg e).trans h2⟩
      · exact .inr ⟨d', v', (if_neg e).trans h1, (valV_neg e).trans h2, h3⟩
def rInDk (neg : Bool) : RD2
  | .str x, .dct ks ds, M, Q => Q (.bl (if neg = true then !(lkD (.inr x) ks ds).isSome else (lkD (.inr x) ks ds).isSome)) M
  | _, _, _, _ => False
def rGetDk : RD2
  | .dct ks ds, .str x, M, Q => ∃ d, lkD (.inr x) ks ds = some d ∧ Q d M
  | _, _, _, _ => False
theorem can_inK {neg : Bool} {σ : St} {H : Hp} {Q0 : VK} (q : canE Y (dOp (rInDk neg) t u) σ H Q0) : canE Y t σ H fun y H1 => canE Y u σ H1 fun x H2 => ∃ a o, x = .ref a ∧ DGet H2 a y o ∧ Q0 (.bl (if neg = true then !o.isSome else o.isSome)) H2 := by
  obtain ⟨F, M, ρ, Q, rs, rl, q, k⟩ := q
  refine ⟨F, M, ρ, _, rs, rl, q, fun y d F1 M1 H1 s1 rp1 q1 => ?_⟩
  refine ⟨F1, M1, ρ, _, rs.mono s1.same, s1.rel, q1, fun x e F2 M2 H2 s2 rp2 q2 => ?_⟩
  unfold rInDk at q2
  split at q2
  · cases rp1
    cases rp2 with
    | dct at1 len ra =>
      refine ⟨_, _, rfl, .inl ⟨_, Sum.inr _, .inl (s2.rel.sub _ _ at1), rfl, rfl⟩, ?_⟩
      have k1 := k _ _ F2 M2 H2 (s1.trans s2) (.bl _) q2
      rcases lk_rp (Sum.inr _) ra len with ⟨h1, h2⟩ | ⟨d', v', h1, h2, h3⟩
      · rw [h1] at k1; rw [h2]; exact k1
      · rw [h1] at k1; rw [h2]; exact k1
  · exact q2.elim
theorem dt_cmpK {n : Nat} (hr : Room n X.A) (ha : DE X Y a t) (hb : DE X Y b u) (hm : behindInMarks .In b = false) : DT X Y (.Compare a [.In] [b] pos) (dB (dOp (rInDk false) t u)) := by
  have hu := hr.units
  refine PT.weak (pt_cmp (pc_din (by omega) ha hb) hm) ?_
  rintro σ H Q0 ⟨F, M, ρ, Q, rs, rl, q, k⟩
  refine can_inK (neg := false) (Q0 := fun x H1 => ∃ c, x = V.bl c ∧ Q0 c H1) ⟨F, M, ρ, _, rs, rl, q, fun v d F1 M1 H1 s1 rp ⟨c, e, q1⟩ => ?_⟩
  subst e
  cases rp
  exact ⟨c, rfl, k c F1 M1 H1 s1 q1⟩
theorem dt_cmpKN {n : Nat} (hr : Room n X.A) (ha : DE X Y a t) (hb : DE X Y b u) (hm : behindInMarks .NotIn b = false) : DT X Y (.Compare a [.NotIn] [b] pos) (dB (dOp (rInDk true) t u)) := by
  have hu := hr.units
  refine PT.weak (pt_cmp (pc_dnotin (by omega) ha hb) hm) ?_
  rintro σ H Q0 ⟨F, M, ρ, Q, rs, rl, q, k⟩
  refine can_inK (neg := true) (Q0 := fun x H1 => ∃ c, x = V.bl c ∧ Q0 c H1) ⟨F, M, ρ, _, rs, rl, q, fun v d F1 M1 H1 s1 rp ⟨c, e, q1⟩ => ?_⟩
  subst e
  cases rp
  exact ⟨c, rfl, k c F1 M1 H1 s1 q1⟩
theorem de_getK {n : Nat} (hr : Room n X.A) (ha : DE X Y a t) (hb : DE X Y b u) (hs : NoSl b := by exact fun _ _ => rfl) : DE X Y (.Subscript a b pos) (dOp rGetDk t u) := by
  have hu := hr.units
  refine PE.weak (pe_dget (by omega) ha hb hs) ?_
  rintro σ H Q0 ⟨F, M, ρ, Q, rs, rl, q, k⟩
  refine ⟨F, M, ρ, _, rs, rl, q, fun x d F1 M1 H1 s1 rp1 q1 => ?_⟩
  refine ⟨F1, M1, ρ, _, rs.mono s1.same, s1.rel, q1, fun y e F2 M2 H2 s2 rp2 q2 => ?_⟩
  unfold rGetDk at q2
  split at q2
  · obtain ⟨d', e1, q2⟩ := q2
    cases rp2
    cases rp1 with
    | dct at1 len ra =>
      rcases lk_rp (Sum.inr _) ra len with ⟨h1, h2⟩ | ⟨d2, v2, h1, h2, h3⟩
      · rw [e1] at h1; cases h1
      · rw [e1] at h1; cases h1
        exact ⟨_, v2, rfl, .inl ⟨_, Sum.inr _, .inl (s2.rel.sub _ _ (s2.same _ _ at1)), rfl, h2.symm⟩, k _ _ F2 M2 H2 (s1.trans s2) (h3.mono s2.same) q2⟩
  · exact q2.elim
end
end DL

/-! DL12: readings of comprehensions and loops by invariants; promises weakened. -/
namespace DL
open PySem PySem.Spec L2
open PyProof.Rows hiding St

/-- each item gives its own value, nothing else happens -/
theorem lc_map {g : DTG} {tt : DTT} {te : DTE} {G : Mp → Prop} {ρ : Rho} {k : List DL.D → Mp → Prop} {M : Mp} (f : DL.D → DL.D) (hG : G M) : ∀ (xs acc : List DL.D),
    (∀ x ∈ xs, ∀ (K1 : DK) (K2 : Mp → Prop), K1 (f x) M → g x ρ M fun ρ2 M2 => tt ρ2 M2 fun b M3 => if b = true then te ρ2 M3 K1 else K2 M3) →
    acc.length + xs.length ≤ sizeLine → k (acc ++ xs.map f) M → lcW g tt te G ρ k xs acc M
  | [], acc, _, _, h => ⟨hG, by simpa using h⟩
  | x :: xs, acc, step, hz, h => by
    refine ⟨hG, step x List.mem_cons_self _ _ ⟨by rw [List.length_cons] at hz; omega, ?_⟩⟩
    exact lc_map f hG xs (acc ++ [f x]) (fun y hy => step y (List.mem_cons_of_mem _ hy)) (by rw [List.length_append]; simp at hz ⊢; omega) (by simpa using h)
/-- the state moves along I, each value has P -/
theorem lc_inv {g : DTG} {tt : DTT} {te : DTE} {G : Mp → Prop} {ρ : Rho} {k : List DL.D → Mp → Prop} (I : Nat → Mp → Prop) (P : DL.D → Prop) (hG : ∀ n M, I n M → G M) : ∀ (xs acc : List DL.D) (M : Mp), I acc.length M → (∀ d ∈ acc, P d) →
    (∀ x ∈ xs, ∀ n M, I n M → n < acc.length + xs.length → ∀ (K1 : DK) (K2 : Mp → Prop), (∀ d M', P d → I (n + 1) M' → K1 d M') → g x ρ M fun ρ2 M2 => tt ρ2 M2 fun b M3 => if b = true then te ρ2 M3 K1 else K2 M3) →
    acc.length + xs.length ≤ sizeLine → (∀ ds M', ds.length = acc.length + xs.length → (∀ d ∈ ds, P d) → I ds.length M' → k ds M') → lcW g tt te G ρ k xs acc M
  | [], acc, M, i, p, _, _, h => ⟨hG _ _ i, h acc M (by simp) p i⟩
  | x :: xs, acc, M, i, p, step, hz, h => by
    refine ⟨hG _ _ i, step x List.mem_cons_self _ _ i (by simp) _ _ fun d M' pd i' => ⟨by rw [List.length_cons] at hz; omega, ?_⟩⟩
    refine lc_inv I P hG xs (acc ++ [d]) M' (by simpa using i') ?_ (fun y hy n M i hn => step y (List.mem_cons_of_mem _ hy) n M i (by simp at hn ⊢; omega)) (by rw [List.length_append]; simp at hz ⊢; omega) (fun ds M2 e q j => h ds M2 (by rw [e]; simp; omega) q j)
    intro d' hd'
    rcases List.mem_append.mp hd' with z | z
    · exact p d' z
    · rw [List.mem_singleton.mp z]; exact pd
/-- a for loop along I -/
theorem for_inv {g : DTG} {tb : DTS} {D : DEnds} {G : Mp → Prop} (I : Nat → Rho → Mp → Prop) (hG : ∀ n ρ M, I n ρ M → G M) : ∀ (xs : List DL.D) (n : Nat) (ρ : Rho) (M : Mp), I n ρ M →
    (∀ x ∈ xs, ∀ m ρ M, I m ρ M → m < n + xs.length → ∀ N : Rho → Mp → Prop, (∀ ρ' M', I (m + 1) ρ' M' → N ρ' M') → g x ρ M fun ρ2 M2 => tb { D with nx := N, ct := N, bk := D.nx } ρ2 M2) →
    (∀ ρ' M', I (n + xs.length) ρ' M' → D.nx ρ' M') → forW g tb D G xs ρ M
  | [], n, ρ, M, i, _, h => ⟨hG _ _ _ i, h ρ M (by simpa using i)⟩
  | x :: xs, n, ρ, M, i, step, h => by
    refine ⟨hG _ _ _ i, step x List.mem_cons_self n ρ M i (by simp) _ fun ρ' M' i' => ?_⟩
    exact for_inv I hG xs (n + 1) ρ' M' i' (fun y hy m ρ M j hm => step y (List.mem_cons_of_mem _ hy) m ρ M j (by simp at hm ⊢; omega)) fun ρ2 M2 j => h ρ2 M2 (by simpa [Nat.add_assoc, Nat.add_comm 1] using j)
/-- what stands in M1 beside M2 is forgotten -/
theorem StpR.forget {K : PySem.W.Frag} {T : TT8} {F F1 : Hp} {M M1 M2 : Mp} {H H1 : Hp} (s : StpR K T F M H F1 M1 H1) (h : ∀ a m, M2 a = some m → M1 a = some m) : StpR K T F M H F1 M2 H1 := by
  refine ⟨s.same, ⟨s.rel.sub, fun a m q => s.rel.mt a m (h a m q), s.rel.nt⟩, fun a o q f m n => ?_, s.tab⟩
  obtain ⟨h1, h2, h3⟩ := s.fr a o q f m n
  refine ⟨h1, h2, ?_⟩
  cases e : M2 a with
  | none => rfl
  | some m2 => rw [h a m2 e] at h3; cases h3
def SubM (M M' : Mp) : Prop := ∀ a m, M a = some m → M' a = some m
theorem SubM.refl (M : Mp) : SubM M M := fun _ _ h => h
theorem SubM.mu {M M' : Mp} (h : SubM M M') {a : Addr} (ha : M a = none) (o : MO) : SubM M (mu M' a o) := fun b m e => by
  have ne : b ≠ a := fun q => by rw [q, ha] at e; cases e
  rw [mu_ne ne]; exact h b m e
theorem SubM.md {M M' : Mp} (h : SubM M M') {a : Addr} (ha : M a = none) : SubM M (md M' a) := fun b m e => by
  have ne : b ≠ a := fun q => by rw [q, ha] at e; cases e
  unfold DL.md; rw [if_neg ne]; exact h b m e
theorem Cal.weak {P : Program} {w : World} {K : PySem.W.Frag} {T : TT8} {mg : Str → Option Value} {base : Heap} {k : Nat} {x : Str} {es : List DL.D} {sp1 sp2 : DSp} (C : Cal P w K T mg base k x es sp1)
    (h : ∀ ds M Q E, sp2 ds M Q E → sp1 ds M (fun d M1 => ∃ M2, SubM M2 M1 ∧ Q d M2) fun x v M1 => ∃ M2, SubM M2 M1 ∧ E x v M2) : Cal P w K T mg base k x es sp2 := by
  obtain ⟨f, fd, ps, dvs, us, G, m, kp, b, vd, rd⟩ := C.ex
  have w : ∀ vs H Q0 E0, lift K T sp2 vs H Q0 E0 → lift K T sp1 vs H Q0 E0 := by
    rintro vs H Q0 E0 ⟨ds, F, M, Q, E, rp, rl, tb, q, k, ke⟩
    refine ⟨ds, F, M, _, _, rp, rl, tb, h ds M Q E q, fun v d F' M' H' s r ⟨M2, sub, q2⟩ => k v d F' M2 H' (s.forget sub) r q2, fun x v cls d F' M' H' s r ⟨M2, sub, q2⟩ => ke x v cls d F' M2 H' (s.forget sub) r q2⟩
  exact ⟨f, fd, ps, dvs, us, ⟨fun z => G.many (w _ _ _ _ z), fun r g e b v z => G.go r g e b v (w _ _ _ _ z)⟩, m, kp, b, vd, rd⟩
theorem dcal {P : Program} {w : World} {K : PySem.W.Frag} {T : TT8} {mg : Str → Option Value} {base : Heap} {x qual : Str} {st : Stmt} {N ps : List Str} {es : List DL.D} {k : Nat} {sp : DSp} (h : Has K mg x qual st ps es) (S : FnScope N ps (defScope st)) {t : DXK → DTS}
    (body : ∀ f, DBody P w K T mg base k N qual st f t) (read : ∀ ds M Q E, sp ds M Q E → ds.length = ps.length ∧ t E { nx := fun _ M' => Q .non M', rt := Q } (dstart N ds) M) : Cal P w K T mg base (k + 1) x es sp := by
  obtain ⟨f, oc, od, dV, kV, doc, pm, an, cdv, ct, osl, us, dvs, lk, hcd, kp, m, b, vd, rd⟩ := h.ex
  exact ⟨f, _, ps, dvs, us, dgn lk hcd S (body f) read, m, kp, b, vd, rd⟩
/-- nothing can be asked of it -/
theorem Cal.none {P : Program} {w : World} {K : PySem.W.Frag} {T : TT8} {mg : Str → Option Value} {base : Heap} {x qual : Str} {st : Stmt} {ps : List Str} {es : List DL.D} {sp : DSp} (h : Has K mg x qual st ps es) (no : ∀ ds M Q E, ¬ sp ds M Q E) : Cal P w K T mg base 0 x es sp := by
  obtain ⟨f, oc, od, dV, kV, doc, pm, an, cdv, ct, osl, us, dvs, lk, hcd, kp, m, b, vd, rd⟩ := h.ex
  refine ⟨f, _, ps, dvs, us, ⟨?_, ?_⟩, m, kp, b, vd, rd⟩
  · rintro vs H Q E0 ⟨ds, F, M, Q, E, rp, _, _, q, _⟩
    exact (no _ _ _ _ q).elim
  · rintro A outer s H args us vs Q E0 _ _ _ _ _ ⟨ds, F, M, Q, E, rp, _, _, q, _⟩
    exact (no _ _ _ _ q).elim
/-! ### what the top has left -/
def Dfn (K : PySem.W.Frag) (x : Str) (st : Stmt) : Prop := ∃ (f : Addr) (oc : Value) (od : Option Addr) (kV doc pm : Value) (an : Option Addr) (cd ct : Value) (osl : Array (Option Value)),
  PySem.W.nsIn K mainGlobals x = some (some (.ref f)) ∧ K.lookup f = some ⟨oc, od, .func (PySem.W.fnOf x x (defArgs st) (defBody st) (defScope st) .none kV doc pm an cd ct), osl⟩ ∧ PySem.W.codeIn K cd x = true ∧ PySem.W.keepIn K (.ref f) = true
section
variable {K : PySem.W.Frag} {h : Heap} {mg : Str → Option Value} {x : Str} {st : Stmt} {f : Addr} {oc : Value} {od : Option Addr} {kV doc pm : Value} {an : Option Addr} {cd ct : Value} {osl : Array (Option Value)}
theorem dfn_mk (a : PySem.W.nsIn K mainGlobals x = some (some (.ref f))) (l : K.lookup f = some ⟨oc, od, .func (PySem.W.fnOf x x (defArgs st) (defBody st) (defScope st) .none kV doc pm an cd ct), osl⟩) (c : PySem.W.codeIn K cd x = true) (k : PySem.W.keepIn K (.ref f) = true) : Dfn K x st :=
  ⟨f, oc, od, kV, doc, pm, an, cd, ct, osl, a, l, c, k⟩
theorem has_of (X : K.In h) (G : h.Ns mainGlobals mg) {ps : List Str} (D : Dfn K x st)
    (b : ∀ (kV doc pm : Value) (an : Option Addr) (cd ct : Value) (us : List Value), us.length = ps.length → bindArgs (PySem.W.fnOf x x (defArgs st) (defBody st) (defScope st) .none kV doc pm an cd ct) ⟨us, []⟩ = pure (ps.zip us)) : Has K mg x x st ps [] := by
  obtain ⟨f, oc, od, kV, doc, pm, an, cd, ct, osl, a, l, c, k⟩ := D
  exact ⟨f, oc, od, .none, kV, doc, pm, an, cd, ct, osl, [], [], l, c, k, PySem.W.mg_of X G a, .all (b kV doc pm an cd ct), .nil, fun F => .nil⟩
/-- a def with one default, asked with all its arguments -/
def DfnT (K : PySem.W.Frag) (x : Str) (st : Stmt) : Prop := ∃ (f : Addr) (oc : Value) (od : Option Addr) (T : Addr) (o : Obj) (u : Value) (n : Nat) (kV doc pm : Value) (an : Option Addr) (cd ct : Value) (osl : Array (Option Value)),
  PySem.W.nsIn K mainGlobals x = some (some (.ref f)) ∧ K.lookup f = some ⟨oc, od, .func (PySem.W.fnOf x x (defArgs st) (defBody st) (defScope st) (.ref T) kV doc pm an cd ct), osl⟩ ∧ PySem.W.codeIn K cd x = true ∧ PySem.W.keepIn K (.ref f) = true ∧ K.lookup T = some o ∧ o.data = .seq [u].toArray n
theorem dfnT_mk {T : Addr} {c2 : Value} {d2 : Option Addr} {u : Value} {n : Nat} {s2 : Array (Option Value)} (a : PySem.W.nsIn K mainGlobals x = some (some (.ref f))) (l : K.lookup f = some ⟨oc, od, .func (PySem.W.fnOf x x (defArgs st) (defBody st) (defScope st) (.ref T) kV doc pm an cd ct), osl⟩) (c : PySem.W.codeIn K cd x = true) (k : PySem.W.keepIn K (.ref f) = true)
    (lT : K.lookup T = some ⟨c2, d2, .seq #[u] n, s2⟩) : DfnT K x st := ⟨f, oc, od, T, _, u, n, kV, doc, pm, an, cd, ct, osl, a, l, c, k, lT, rfl⟩
theorem hasT_of (X : K.In h) (G : h.Ns mainGlobals mg) {ps : List Str} (D : DfnT K x st)
    (b : ∀ (T : Addr) (kV doc pm : Value) (an : Option Addr) (cd ct : Value) (us its : List Value), us.length = ps.length → its.length = 1 →
      ∃ k, bindArgs (PySem.W.fnOf x x (defArgs st) (defBody st) (defScope st) (.ref T) kV doc pm an cd ct) ⟨us, []⟩ = seqItems? (.ref T) >>= k ∧ k (some its.toArray) = pure (ps.zip us)) : Has K mg x x st ps [] := by
  obtain ⟨f, oc, od, T, o, u, n, kV, doc, pm, an, cd, ct, osl, a, l, c, k, lT, oT⟩ := D
  refine ⟨f, oc, od, .ref T, kV, doc, pm, an, cd, ct, osl, [], [], l, c, k, PySem.W.mg_of X G a, fun s us X2 hl => ?_, .nil, fun F => .nil⟩
  rw [List.append_nil] at hl ⊢
  obtain ⟨kk, e1, e2⟩ := b T kV doc pm an cd ct us [u] hl rfl
  refine BindsTo.of_looks fun M => ?_
  rw [e1]
  exact looks_items X2 lT oT (.of_pure e2)
theorem glob_str (X : K.In h) (G : h.Ns mainGlobals mg) {y : Str} {t : Tok} (a : PySem.W.nsIn K mainGlobals x = some (some (.str y t))) : Glob K mg x (.str y) := ⟨.str y, _, PySem.W.mg_of X G a, ⟨t, rfl⟩, fun F => .str y⟩
theorem glob_int (X : K.In h) (G : h.Ns mainGlobals mg) {i : Int} {t : Tok} (a : PySem.W.nsIn K mainGlobals x = some (some (.int i t))) : Glob K mg x (.int i) := ⟨.int i, _, PySem.W.mg_of X G a, ⟨t, rfl⟩, fun F => .int i⟩
theorem glob_texts (X : K.In h) (G : h.Ns mainGlobals mg) {T : Addr} {od : Option Addr} {its : Array Value} {n : Nat} {sl : Array (Option Value)} {ws : List Str} (a : PySem.W.nsIn K mainGlobals x = some (some (.ref T))) (l : K.lookup T = some ⟨.type "tuple", od, .seq its n, sl⟩)
    (v : Vals (ws.map V.str) its.toList) (z : ws.length ≤ sizeLine) : Glob K mg x (.tup (ws.map D.str)) := by
  refine ⟨.ref T, _, PySem.W.mg_of X G a, rfl, fun F => .tup (.inr ⟨_, its, n, l, rfl, rfl, ?_, v⟩) (of_strs ws)⟩
  have := v.length
  rw [List.length_map] at this
  rw [← Array.length_toList, ← this]
  exact z
end
end DL

set_option maxHeartbeats 4000000
/-! DX1: own exceptions with a value: __init__, raise. -/
namespace DL
open PySem PySem.Spec L2
open PyProof.Rows hiding St

/-- the i-th def of a class -/
def methS (st : Stmt) (i : Nat) : Stmt := match st with
  | .ClassDef _ _ _ body _ _ _ _ _ _ _ => body.getD i (.Pass ⟨0, 0, 0, 0⟩)
  | _ => .Pass ⟨0, 0, 0, 0⟩
/-- TextError.__init__: the exception that is being made gets its dict -/
def spInit (K : PySem.W.Frag) : Sp := fun vs H Q _ => ∃ (a C : Addr) (u : V), vs = [.ref a, u] ∧ OexC K C ∧ PySem.W.findIn K (.ref C) "value" = some none ∧ H a = some (exo a C none) ∧
  ∀ dx, H dx = none → dx ≠ a → Q .non (upd (upd H dx (exd dx [("value", u)])) a (exo a C (some dx)))
def topT (i : Nat) : Stmt := PySem.Challenge.pw_eithermended_k83_whole_edits_between_tex.main.body.getD i (.Pass ⟨0, 0, 0, 0⟩)
abbrev st_init : Stmt := methS (topT 5) 0
theorem sc_init : FnScope ["self", "value"] ["self", "value"] (defScope st_init) := ⟨rfl, rfl, rfl, by decide +kernel, rfl, by decide +kernel, by decide +kernel⟩
section
variable {P : Program} {w : World} {K : PySem.W.Frag} {mg : Str → Option Value} {base : Heap} {fI : Addr} {fd : FuncData}
theorem ok_init (F : Fun K "__init__" "TextError.__init__" st_init fI fd) (mv : mg "ValueError" = none) (vV : PySem.W.findCls K (.type "ValueError") (.type "type") "__init__" = some (.val (.builtin "ValueError.__init__"))) :
    FnOk P w K mg base L2.CX0 1 fI fd ["self", "value"] (spInit K) := by
  refine F.ok sc_init (fun vs H Q E h => ?_) (fun cdv A outer s H vs Q E hr h => ?_)
  · obtain ⟨a, C, u, rfl, _⟩ := h; rfl
  obtain ⟨a, C, u, rfl, T, nv, ea, q⟩ := h
  refine ⟨_, pss_cons (ps_expr (pe_veinit rfl mv vV (pa_cons (pv 0) (pa_cons (pv 1) pa_nil)))) (pss_one (ps_ost (pv 0) (pv 1))), ?_⟩
  refine ⟨.ref a, rfl, u, rfl, a, C, [u], rfl, by simp, T, ea, ?_⟩
  exact ⟨u, rfl, .ref a, rfl, a, C, rfl, T, nv, .inl ⟨ea, fun dx n ne => q dx n ne⟩⟩
end
end DL

set_option maxHeartbeats 4000000
/-! DX2: raise C(e). -/
namespace DL
open PySem PySem.Spec L2
open PyProof.Rows hiding St

/-- an own exception class with one value, its __init__ as TextError's -/
structure ExC (P : Program) (w : World) (K : PySem.W.Frag) (mg : Str → Option Value) (base : Heap) (x : Str) : Prop where
  ex : ∃ (C fI : Addr) (fd : FuncData), mg x = some (.ref C) ∧ PySem.W.nsIn K mainGlobals x = some (some (.ref C)) ∧ OexC K C ∧ PySem.W.findIn K (.ref C) "__init__" = some (some (.ref fI)) ∧
    PySem.W.typeIn K (.ref fI) = some (.type "function") ∧ PySem.W.findIn K (.ref C) "value" = some none ∧ FnOk P w K mg base L2.CX0 1 fI fd ["self", "value"] (spInit K) ∧ Binds K fd ["self", "value"] []
def dRaise (x : Str) (t : DTE) (E : DXK) : DTS := fun _ ρ M => t ρ M fun v M1 => E x v M1
section
variable {X : Cx} {Y : KJ X.K} {p cp pos : Pos} {e : Expr} {t : DTE} {E : DXK} {x : Str}
theorem ds_raise (T : ExC X.prog X.w X.K X.mg X.base x) (hr : Room 2 X.A) (g : XG X Y E) (hc : X.calm = true) (he : DE X Y e t) (hg : Gl X x := by rfl) (hd : (x == ("__debug__" : Str)) = false := by decide)
    (hs : starEach [e] X.env = (false, eval e X.env) :: starEach [] X.env := by rfl) (hpl : (backTo cp (starEach [] X.env)).any (·.1) = false := by rfl) :
    DS X Y (.Raise (some (.Call (.Name x p) [e] [] cp)) none pos) (dRaise x t E) := by
  obtain ⟨C, fI, fd, hm, hn, T, iC, tI, nv, F1, hb⟩ := T.ex
  obtain ⟨W, tk, h⟩ := g.ex
  refine PS.weak (ps_raise hc tk (pmk_oex (dvs := []) T iC tI F1 hr hb .nil pass0 hg hm (da_cons he da_nil hs) hd hs hpl)) ?_
  rintro D0 σ H ⟨F, M, ρ, D, rs, rl, q, k⟩
  refine ⟨F, M, ρ, fun ds M1 => match ds with | [v] => E x v M1 | _ => False, rs, rl, q, ?_⟩
  intro vs ds F1 M1 H1 s1 rp z
  obtain ⟨v, rfl⟩ : ∃ v, ds = [v] := by
    match ds, z with
    | [v], _ => exact ⟨v, rfl⟩
  obtain ⟨u, rfl, ru⟩ := rp1 rp
  refine ⟨by simp, fun a ha => ⟨a, C, u, rfl, T, nv, upd_same, fun dx n ne => ?_⟩⟩
  have hdx : H1 dx = none := by rw [upd_ne ne] at n; exact n
  refine ⟨rfl, dx, [("value", u)], upd_same, by rw [upd_ne ne, upd_same], hdx, ?_⟩
  have e1 : upd (del (upd (upd (upd H1 a (exo a C none)) dx (exd dx [("value", u)])) a (exo a C (some dx))) a) dx (.xd [("value", u)]) = upd H1 dx (.xd [("value", u)]) := by
    funext b
    by_cases hb : b = dx
    · rw [hb, upd_same, upd_same]
    · rw [upd_ne hb, upd_ne hb]
      by_cases hba : b = a
      · rw [hba, del_same, ha]
      · rw [del_ne hba, upd_ne hba, upd_ne hb, upd_ne hba]
  rw [e1]
  have s2 := s1.rel.newF hdx (.xd [("value", u)])
  exact h σ _ M1 _ x v _ _ s2.rel ⟨C, dx, u, hn, rfl, rfl, upd_same, ru.mono s2.same⟩ z
end
end DL

set_option maxHeartbeats 4000000
/-! DX3: a caught exception that stays known behind its suite. -/
namespace DL
open PySem PySem.Spec L2
open PyProof.Rows hiding St

/-- the heap where the caught exception at a is known -/
def clm (cls : Value) (d : Option Addr) (a : Addr) (H : Hp) : Hp :=
  match cls, d with
  | .ref C, some dx => upd H a (ExK C dx a)
  | _, _ => H
theorem clm_of {C dx a : Addr} {H : Hp} : clm (.ref C) (some dx) a H = upd H a (ExK C dx a) := rfl
theorem inv_claim {X : Cx} {pins : List (Addr × Obj)} {σ : L2.St} {H : Hp} {s : Shared} {a : Addr} {oe : Obj} {vs : Array Value} {cls : Value} {d : Option Addr} (I : Inv X pins σ H s) (e : s.heap.get? a = some oe)
    (z : Zc cls d oe) (hd : oe.data = .fields vs) (n0 : X.s_0.heap.get? a = none) (nL : a ≠ X.env.locals) (np : ∀ p ∈ X.pn ++ pins, p.1 ≠ a) (na : H a = none) : Inv X pins σ (clm cls d a H) s := by
  unfold clm
  split
  case h_2 => exact I
  case h_1 C dx =>
  have keepH : ∀ {b : Addr} {o : HO}, H b = some o → upd H a (ExK C dx a) b = some o := fun {b o} q => by
    have hb : b ≠ a := fun w => by rw [w, na] at q; cases q
    rw [upd_ne hb]; exact q
  have un : Un X.fs X.ex X.H_0 (upd H a (ExK C dx a)) X.s_0.heap s.heap := by
    refine ⟨I.base.keep, I.base.slot, fun b o q n hx => ?_, I.base.there, fun b xs q => keepH (I.base.tups b xs q), fun b o u q => keepH (I.base.frzs b o u q), fun b ps q => ?_⟩
    · have hb : b ≠ a := fun w => by rw [w, n0] at q; cases q
      rw [upd_ne hb]; exact I.base.free b o q n hx
    · obtain ⟨more, r⟩ := I.base.tbls b ps q
      exact ⟨more, keepH r⟩
  have hok : HOk X.prog X.w (upd H a (ExK C dx a)) s.heap := fun b o q => by
    by_cases hb : b = a
    · subst hb
      rw [upd_same] at q; cases q
      exact ⟨⟨oe, vs, e, z, hd⟩, ⟨oe, e⟩, fun h1 h2 ⟨o1, v1, q1, q2, q3⟩ k => ⟨o1, v1, k _ q1, q2, q3⟩⟩
    · rw [upd_ne hb] at q
      exact (I.hok b o q).stay (fun _ _ _ q => q) (fun _ q => keepH q) fun _ _ q => keepH q
  refine ⟨I.ok, I.os, I.bare, un, I.loc, I.cell, ?_, fun x c q => ?_, fun p hp => ?_, hok, I.len⟩
  · rw [upd_ne (Ne.symm nL)]; exact I.free
  · have hc : c ≠ a := fun w => by
      obtain ⟨v, o, ho, hv⟩ := I.cell x c q
      rw [w, e] at ho; cases ho
      rw [hd] at hv; cases hv
    rw [upd_ne hc]; exact I.freeC x c q
  · obtain ⟨p1, p2, p3, p4, p5⟩ := I.pin p hp
    exact ⟨p1, by rw [upd_ne (np p hp)]; exact p2, p3, p4, p5⟩

section
variable {X : Cx} {x n : Str} {c : Value} {i : Nat} {body suite : List Stmt} {b₀ : Stmt} {np pos pos' : Pos} {tb : WX → L2.TS} {ts : Addr → Value → Option Addr → L2.TS} {Wo : WX}
/-- what is wished of an exception where the clause keeps it -/
def wKeep (K : PySem.W.Frag) (c : Value) (i : Nat) (ts : Addr → Value → Option Addr → L2.TS) (Wo : WX) (D : L2.Ends) : WX := fun cls d σ H =>
  ∃ b, PySem.W.exmOne K cls c = some b ∧ (b = false → Wo cls d σ H) ∧
    (b = true → ∀ a, H a = none → ts a cls d { nx := fun τ G => D.nx (τ.set i none) (clm cls d a G), rt := fun v G => D.rt v (clm cls d a G), bk := fun τ G => D.bk (τ.set i none) (clm cls d a G), ct := fun τ G => D.ct (τ.set i none) (clm cls d a G) } (σ.set i (some (.ref a))) H)
theorem ps_keep (stk : X.stack = X.env :: X.outer) (noex : X.ex = []) (fr : X.env.frame = some X.env.locals) (nd : X.N.Nodup) (ix : X.N[i]? = some n) (kd : X.env.kindOf n = some .local) (nm : Names X x c) (tk : Takes X Wo)
    (pb : ∀ (W : WX) (pn : List (Addr × Obj)) (xe : Value → Shared → Prop), Takes (X.tr pn xe) W → PassesOwn (model X.prog X.w) X.A X.env xe → PSs (X.tr pn xe) body (tb W))
    (ps : ∀ (a : Addr) (oe : Obj) (cls : Value) (d : Option Addr) (pn : List (Addr × Obj)), Zc cls d oe → (∃ vs, oe.data = .fields vs) → PSs (X.suite a ((a, oe) :: pn)) (b₀ :: suite) (ts a cls d)) :
    PS X (.Try body [.ExceptHandler (some (.Name x np)) (some n) (b₀ :: suite) pos'] [] [] pos) (fun D σ H => tb (wKeep X.K c i ts Wo D) D σ H) := by
  constructor
  intro pins s σ H D I0 want
  have okX := I0.ok
  have frX : X.A.frames = some (X.env :: X.outer) := stk ▸ okX.frames
  apply wpAny_Try_except
  let catch_ : Value → Shared → Prop := fun e s₁ => wpAny (model X.prog X.w) X.A (noteFrame e X.env) (fun _ s₂ => wpAny (model X.prog X.w) X.A (setFlight e none)
    (fun _ s₃ => wpAny (model X.prog X.w) X.A (handleBy e X.env [.ExceptHandler (some (.Name x np)) (some n) (b₀ :: suite) pos']) (SP X pins D) X.xe s₃) X.xe s₂) X.xe s₁
  have tkB : Takes (X.tr (X.pn ++ pins) catch_) (wKeep X.K c i ts Wo D) := by
    rintro _ s' ⟨a, B, sI, pins', τ, G, cls, d, rfl, JT, nb, up, sky, na, os, ag, b, eb, wno, wyes⟩
    have J : Inv X pins τ G sI := JT.ofTry okX
    have skyX : Sky B (X.env :: X.outer) a (Zc cls d) X.env.locals s'.heap := stk ▸ sky
    show wpAny (model X.prog X.w) X.A (noteFrame (.ref a) X.env) _ _ _
    apply Sky.land Zc.steady frX fr skyX
    intro h3 fl3 up3
    have Jl := J.landed (s' := { s' with heap := h3 }) nb fl3.1 (up.trans up3) os ag
    obtain ⟨oe, vs, ae, az, ad⟩ := fl3.there
    have offStk : a ∉ frs (X.env :: X.outer) := fun hm => by
      obtain ⟨_, o1, e1, q1⟩ := fl3.2.2.1.mem hm
      exact q1 _ (by rw [ae] at e1; cases e1; exact ad)
    have offL : a ≠ X.env.locals := fun w => offStk (List.mem_filterMap.mpr ⟨X.env, List.mem_cons_self, w ▸ fr⟩)
    have offF : a ∉ X.fs := fun hm => let ⟨en, m1, m2⟩ := List.mem_filterMap.mp hm; offStk (List.mem_filterMap.mpr ⟨en, List.mem_cons_of_mem _ m1, m2⟩)
    -- the object is none of the def's entry, none that is pinned
    have newI : sI.heap.get? a = none := by
      cases q : sI.heap.get? a with
      | none => rfl
      | some o =>
        have := nb a o q (stk ▸ offStk)
        rw [fl3.2.1] at this; cases this
    have new0 : X.s_0.heap.get? a = none := by
      cases q : X.s_0.heap.get? a with
      | none => rfl
      | some o =>
        obtain ⟨o', q'⟩ := J.base.there a o q (by rw [noex]; simp)
        rw [newI] at q'; cases q'
    have offP : ∀ p ∈ X.pn ++ pins, p.1 ≠ a := fun p hp w => by
      have := (J.pin p hp).1
      rw [w, newI] at this; cases this
    have Ss := Jl.suite ae ad na offL offF
    apply wpAny_handleBy_cons _ (by intro q; cases q)
    apply codeAny_handlers_test
    have looks : PySem.W.Looks (model X.prog X.w) h3 (typeOf (.ref a)) cls := fun A Q E s k q => wpAny_typeOf_ref (k _ _ ae) (az.1.symm ▸ q)
    have names : ∀ {Q E : Value → Shared → Prop}, Q c { s' with heap := h3 } → wpAny (model X.prog X.w) (X.A.mark (some (.ref a))) (eval (.Name x np) X.env) Q E { s' with heap := h3 } := by
      intro Q E q
      rcases nm with ⟨g1, g2, g3⟩
      rcases g3 with g3 | ⟨g3, g4, g5⟩
      · exact ld_glob (X := X.suite a ((a, oe) :: (X.pn ++ pins))) Ss g1 g3 q g2
      · exact ld_blt (X := X.suite a ((a, oe) :: (X.pn ++ pins))) Ss g1 g3 g4 q g5 g2
    apply names
    apply (PySem.W.exm_one (M := model X.prog X.w) Jl.kIn looks eb).here
    cases b
    · show wpAny _ X.A (handleBy (.ref a) X.env []) _ _ _
      apply wpAny_handleBy_nil
      have fl := fl3
      obtain ⟨_, _, _, oe', vs', T, oT, ts', he, hz, hd, h1, hr⟩ := fl3
      unfold PySem.passOn
      apply wpAny_bind
      apply wpAny_field he hd h1
      rw [if_neg (by simp)]
      have on : wpAny (model X.prog X.w) X.A (setFlight (.ref a) X.env.frame) (fun _ s4 => wpAny (model X.prog X.w) X.A (throw (.ref a) : Sem Flow) (SP X pins D) X.xe s4) X.xe { s' with heap := h3 } := by
        rw [fr]
        apply HandSPX.setFlight_upZ fl
        intro h4 held up4
        exact wpAny_throw (tk _ _ ⟨a, B, sI, pins, τ, G, cls, d, rfl, J, nb, (up.trans up3).trans up4, .inr (.inr (stk.symm ▸ held)), na, os, ag, wno rfl⟩)
      first
        | exact wpAny_bind (wpAny_pure (wpAny_bind on))
        | exact wpAny_bind on
    · apply codeAny_handlers_suite_as
      apply HandSPX.lands_againZ fl3
      intro h4 fl4 up4
      have J4 := J.landed (s' := { s' with heap := h4 }) nb fl4.1 ((up.trans up3).trans up4) os ag
      obtain ⟨o4, v4, ae4, az4, ad4⟩ := fl4.there
      have S4 := J4.suite ae4 ad4 na offL offF
      apply store_ok (X := X.suite a ((a, o4) :: (X.pn ++ pins))) (v := .ref a) S4 nd ix (.inl kd) rfl _ (.inr kd)
      intro s5 S5
      refine wpAny_mono ((ps a o4 cls d (X.pn ++ pins) az4 ⟨_, ad4⟩).run [] s5 _ G _ S5 (wyes rfl a na)) ?_ (fun _ _ z => False.elim z)
      intro f s6 sp
      have gone : ∀ {τ' : L2.St} {G' : Hp} {Q : Shared → Prop}, Inv (X.suite a ((a, o4) :: (X.pn ++ pins))) [] τ' G' s6 → (∀ s7, Inv X pins (τ'.set i none) (clm cls d a G') s7 → Q s7) →
          wpAny (model X.prog X.w) X.A (do bindName X.env n .none; unbindBehindTheSuite X.env n pos') (fun _ s7 => Q s7) X.xe s6 := by
        intro τ' G' Q S6 k
        have pa := S6.pin (a, o4) (List.mem_append_left _ List.mem_cons_self)
        exact gone_ok (inv_claim (S6.unsuite okX) pa.1 az4 ad4 new0 offL offP pa.2.1) nd ix kd k
      cases f with
      | ret u => obtain ⟨v6, τ6, G6, S6, r6, q6⟩ := sp; exact gone S6 fun s7 J7 => ⟨_, _, _, J7, r6, q6⟩
      | next => obtain ⟨τ6, G6, S6, q6⟩ := sp; exact gone S6 fun s7 J7 => ⟨_, _, J7, q6⟩
      | brk => obtain ⟨τ6, G6, S6, q6⟩ := sp; exact gone S6 fun s7 J7 => ⟨_, _, J7, q6⟩
      | cont => obtain ⟨τ6, G6, S6, q6⟩ := sp; exact gone S6 fun s7 J7 => ⟨_, _, J7, q6⟩
  refine wpAny_mono ((pb _ (X.pn ++ pins) catch_ tkB PassesOwn.looking).run [] s σ H D (I0.toTry _) want) ?_ (fun e s1 he => he)
  intro f s1 sp
  cases f with
  | next => obtain ⟨τ, G, J, q⟩ := sp; exact wpAny_execs_nil ⟨τ, G, J.ofTry okX, q⟩
  | ret u => obtain ⟨v, τ, G, J, r, q⟩ := sp; exact ⟨v, τ, G, J.ofTry okX, r, q⟩
  | brk => obtain ⟨τ, G, J, q⟩ := sp; exact ⟨τ, G, J.ofTry okX, q⟩
  | cont => obtain ⟨τ, G, J, q⟩ := sp; exact ⟨τ, G, J.ofTry okX, q⟩
end
end DL

set_option maxHeartbeats 4000000
/-! DX4a: a lambda called, the wish of its exception at the slots of the call. -/
namespace DL
open PySem PySem.Spec L2 LamX
open PyProof.Rows hiding St
section
variable {X : Cx} {pins : List (Addr × Obj)} {σ : L2.St} {H : Hp} {s : Shared}
/-- LamX.pe_act, the slots of the caller told -/
theorem pe_actS {CXg : CXT} {Eg : XK} {Ng : List Str} {qg : Str} {sg : Scope} {g f c' : Addr} {cdg pm ctv : Value} {params : Arguments} {body : Expr} {scope : Scope} {k i : Nat} {a : Str} {pn : List (Addr × Obj)} {xe : Value → Shared → Prop} {W : WX} {E : XK} {tb : L2.TE} {p1 p2 : Pos} {σ₀ : L2.St}
    (I : Inv X pins σ H s) (L : LamS X.env.scope scope) (hf : s.heap.get? f = some (PySem.W.kla_obj "<lambda>" (X.env.qual ++ "<lambda>") params body scope (cloFrom X.env.cells scope.names []) pm c' ctv)) (hfn : H f = none) (hfr : f ∉ frs X.stack)
    (bind : bindArgs (PySem.W.kla_fn "<lambda>" (X.env.qual ++ "<lambda>") params body scope (cloFrom X.env.cells scope.names []) pm (.ref c') ctv) ⟨[], []⟩ = pure [])
    (tk : Takes ((cxOf CXg X.prog X.w X.K X.mg X.base Ng qg sg g cdg X.A X.stack s H Eg).tr pn xe) W) (wE : ∀ cls d G, E cls d G → W cls d σ₀ G) (room : Room (k + 1) (X.A.deeper (envOfC qg sg s.heap.objs.size g cdg)))
    (pb : ∀ (A : Around) (outer : List Env) (s : Shared) (H : Hp), A.guards = X.A.guards → Room k (A.deeper (lamEnv X scope s.heap.objs.size f c')) → PE (lamCx X A outer s H E scope f c') body tb)
    (hN : Ng[i]? = some a) (hv : Vis sg a) (hd : (a == ("__debug__" : Str)) = false := by decide) (hcd : (a == ("__classdict__" : Str)) = false := by decide) :
    PE ((cxOf CXg X.prog X.w X.K X.mg X.base Ng qg sg g cdg X.A X.stack s H Eg).tr pn xe) (.Call (.Name a p1) [] [] p2)
      (fun σZ HZ Q => σZ = σ₀ ∧ σZ[i]? = some (some (.ref f)) ∧ HZ c' = some (CodeO c' (X.env.qual ++ "<lambda>")) ∧ tb σ HZ Q) := by
  constructor
  rintro pinsZ sZ σZ HZ Q IZ ⟨e0, slot, code, want⟩
  subst e0
  apply wpAny_Call_Name_kw
  refine thn ((pe_var (pos := p1) (i := i) hN hv hd hcd).run pinsZ sZ σZ HZ (fun v G => v = .ref f ∧ G = HZ) IZ ⟨.ref f, slot, rfl, rfl⟩) ?_
  rintro u s1 ⟨w0, G0, I1, rel, ev, eG⟩
  subst ev
  rw [eG] at I1
  obtain rfl : u = Value.ref f := rel
  have lam := I1.base.keep f _ hf hfn hfr (by intro z; cases z)
  apply PySem.W.callWith_F0 ⟨_, _, _, _, lam⟩
  obtain ⟨⟨oc, vs, t, c1, c2, c3⟩, _, _⟩ := I1.hok c' _ code
  have run : codeAny (model X.prog X.w) (X.A.deeper (envOfC qg sg s.heap.objs.size g cdg)) (.call (.ref f) ⟨[], []⟩) (CR (L2.CX X.prog X.w) (envOfC qg sg s.heap.objs.size g cdg :: X.stack) X.prog X.w HZ s1 Q E) s1 := by
    apply PySem.W.kla_callFunE room.depth lam rfl L.co L.gen rfl ⟨c', oc, vs, t, rfl, c1, c2, c3⟩
    rw [bind]
    apply wpAny_pure
    refine wpAny_newFunctionEnv (fun y hy => (L.own y hy).2) (fun y hy => absurd hy (by simp)) (fun h₁ ns sb => ?_) L.kind
    refine ⟨I1.nolimit.fresh _ sb, ?_⟩
    show codeAny _ _ (.expr body (lamEnv X scope s1.heap.objs.size f c')) _ _
    have J : Inv (lamCx X (X.A.deeper (envOfC qg sg s.heap.objs.size g cdg)) (envOfC qg sg s.heap.objs.size g cdg :: X.stack) s1 HZ E scope f c') [] σ HZ { s1 with heap := h₁, toks := s1.toks + ([] : List (Str × Value)).length } :=
      lam_start2 I L I1.env0 room.hd I1.base ns fun b o e => sb.extBut b o (Nat.ne_of_lt (Heap.lt_size e)) (Heap.get?_push_of_some _ e)
    refine PySem.W.kla_codeExpr (wpAny_mono ((pb (X.A.deeper (envOfC qg sg s.heap.objs.size g cdg)) _ s1 HZ rfl (room.deeper _)).run [] _ _ HZ Q J want) ?_ fun e s' q => q)
    rintro v s' ⟨w', G, J', rv, q⟩
    exact ⟨w', G, J'.os, J'.bare, J'.base, J'.hok, rv, q⟩
  apply wpAny_call
  refine codeAny_mono run ?_
  intro r s' res
  cases r with
  | error e => exact tk e s' (XE.of_call I1 (fun cls d G q => wE cls d G q) res)
  | ok fl => cases fl with
    | ret u => exact I1.after res
    | next => exact res.elim
    | brk => exact res.elim
    | cont => exact res.elim
end
end DL

set_option maxHeartbeats 4000000
/-! DX4b: a def that calls what it got, at told slots; its call with a lambda. -/
namespace DL
open PySem PySem.Spec L2 LamX
open PyProof.Rows hiding St

/-- the context of the def x at g, entered from X at s -/
abbrev Zg (X : Cx) (Ng : List Str) (x : Str) (sg : Scope) (g : Addr) (cdg : Value) (s : Shared) (H : Hp) : Cx := cxOf C8.CX0 X.prog X.w X.K X.mg X.base Ng x sg g cdg X.A X.stack s H C8.E0
abbrev TTv := (XK → Hp → VK → Prop) → Hp → VK → Prop
/-- as LamX.GivesTo, the slots told at each call of what it got -/
def GivesS (X : Cx) (Ng : List Str) (x : Str) (sg : Scope) (g : Addr) (cdg : Value) (bg : List Stmt) (a q : Str) (TT : TTv) : Prop :=
  ∀ (f c' : Addr) (s : Shared) (H : Hp) (Q : VK) (tl : XK → Hp → VK → Prop),
    (∀ (σ₀ : L2.St) (W : WX) (pn : List (Addr × Obj)) (xe : Value → Shared → Prop) (E : XK) (p1 p2 : Pos), Takes ((Zg X Ng x sg g cdg s H).tr pn xe) W → (∀ cls d G, E cls d G → W cls d σ₀ G) →
      PE ((Zg X Ng x sg g cdg s H).tr pn xe) (.Call (.Name a p1) [] [] p2) fun σ G R => σ = σ₀ ∧ σ[0]? = some (some (.ref f)) ∧ G c' = some (CodeO c' q) ∧ tl E G R) →
    H c' = some (CodeO c' q) → TT tl H Q → ∃ t, PSs (Zg X Ng x sg g cdg s H).nox bg t ∧ t { nx := fun _ G => Q .non G, rt := Q } (L2.start Ng [.ref f]) H
section
variable {X : Cx}
/-- x(lambda: body), x such a def -/
theorem pe_lamS {T : List (Addr × Str)} {TT : TTv} {x a : Str} {g c P : Addr} {k : Nat} {pg : Arguments} {bg : List Stmt} {sg : Scope} {dV kV doc pm cdv ct oc : Value} {an od : Option Addr} {osl : Array (Option Value)} {Ng : List Str}
    {params : Arguments} {body : Expr} {scope : Scope} {t : XK → L2.TE} {p lpos pos : Pos}
    (gl : Gl X x) (m : X.mg x = some (.ref g)) (kp : PySem.W.keepIn X.K (.ref g) = true) (lk : X.K.lookup g = some ⟨oc, od, .func (PySem.W.fnOf x x pg bg sg dV kV doc pm an cdv ct), osl⟩) (hcd : PySem.W.codeIn X.K cdv x = true)
    (bi : L2.Binds X.K (PySem.W.fnOf x x pg bg sg dV kV doc pm an cdv ct) [a] []) (S : FnScope Ng [a] sg) (N0 : Ng[0]? = some a) (vis : Vis sg a) (give : GivesS X Ng x sg g cdv bg a (X.env.qual ++ "<lambda>") TT)
    (tb : TabB X.base X.mg c P) (cod : X.env.code = .ref c) (inT : (P, X.env.qual ++ "<lambda>") ∈ T) (onlyT : ∀ p ∈ T, p.1 = P → p.2 = X.env.qual ++ "<lambda>") (room : Room (k + 2) X.A) (L : LamS X.env.scope scope) (nodef : defaultsOf params X.env = ([], []))
    (noarg : ∀ (q : Str) (cl : List (Str × Addr)) (pm cv ctv : Value), bindArgs (PySem.W.kla_fn "<lambda>" q params body scope cl pm cv ctv) ⟨[], []⟩ = pure [])
    (inner : ∀ (A : Around) (outer : List Env) (s : Shared) (H : Hp) (E : XK) (f c' : Addr), A.guards = X.A.guards → Room k (A.deeper (lamEnv X scope s.heap.objs.size f c')) → PE (lamCx X A outer s H E scope f c') body (t E))
    (n1 : (x == ("__debug__" : Str)) = false := by decide) (n2 : (a == ("__debug__" : Str)) = false := by decide) (n3 : (a == ("__classdict__" : Str)) = false := by decide) :
    PE X (.Call (.Name x p) [.Lambda params body scope lpos] [] pos) (tLam T TT t) := by
  constructor
  rintro pins s σ H Q I ⟨tabs, nxt⟩
  apply wpAny_Call_Name_kw
  refine ld_glob I gl m ?_ n1
  refine PySem.W.callWith_K (h₀ := X.base) I.ok.mod.kin kp ?_ (by rfl) (by rfl)
  show wpAny _ _ (spliced ((false, eval (.Lambda params body scope lpos) X.env) :: backTo pos (starEach [] X.env))) _ _ s
  apply Calls.spliced_cons
  apply lam_make2 I tb cod inT onlyT tabs nodef (L.has I.ok)
  intro f c' pm' ctv H1 s' I1 eN T1 hf hfn hfr hco
  refine Calls.spliced_nil ⟨I1.kIn, ?_⟩
  have run : codeAny (model X.prog X.w) X.A (.call (.ref g) ⟨[.ref f], []⟩) (CR C8.CX0 X.stack X.prog X.w H1 s' Q C8.E0) s' := by
    refine run_ofS (N := Ng) (ps := [a]) (us := [.ref f]) (vs := [.ref f]) lk hcd S room I1.env0 (bi s' [.ref f] I1.kIn rfl) (.cons rfl .nil) rfl ?_
    intro room'
    obtain ⟨u, hu, hq⟩ := give f c' s' H1 Q (fun E G R => t E σ G R) (fun σ₀ W pn xe E p1 p2 tk wE =>
      pe_actS (i := 0) (CXg := C8.CX0) (Eg := C8.E0) I1 L hf hfn hfr (noarg _ _ _ _ _) tk wE room' (fun A outer s H gA r2 => inner A outer s H E f c' gA r2) N0 vis n2 n3) hco (nxt H1 eN T1)
    exact ⟨u, hu.nox, hq⟩
  apply wpAny_call
  refine codeAny_mono run ?_
  intro r s2 q
  match r, q with
  | .error _, q => exact (show False from q).elim
  | .ok (.ret u), q => exact I1.after q
  | .ok .next, q => exact q.elim
  | .ok .brk, q => exact q.elim
  | .ok .cont, q => exact q.elim
end
end DL

set_option maxHeartbeats 4000000
/-! DX4c: a def that calls what it got and tells what was heard. -/
namespace DL
open PySem PySem.Spec L2 LamX
open PyProof.Rows hiding St

/-- caught, back = None, None; try: back = a() except C as error: caught = error; return caught, back -/
def THeard (K : PySem.W.Frag) (CS : Addr) : TTv := fun tl H Q =>
  ∀ p0, H p0 = none → tl (fun cls d G => PySem.W.exmOne K cls (.ref CS) = some true ∧ ∀ a, G a = none → ∀ p, clm cls d a G p = none → Q (.ref p) (upd (clm cls d a G) p (.tup [.ref a, .non]))) (upd H p0 (.tup [.non, .non]))
    (fun v G => ∀ p, G p = none → Q (.ref p) (upd G p (.tup [.non, v])))
section
variable {X : Cx}
theorem PE.up {e : Expr} {t : L2.TE} (h : PE X e t) : PE X e fun σ H Q => ∃ R, t σ H R ∧ ∀ v G, R v G → Q v G := by
  constructor
  rintro pins s σ H Q I ⟨R, z, k⟩
  refine wpAny_mono (h.run pins s σ H R I z) ?_ fun _ _ x => x
  rintro u s1 ⟨v, G, J, r, q⟩
  exact ⟨v, G, J, r, k v G q⟩
theorem heard_gives {x a cg bk er e q : Str} {sg : Scope} {g CS : Addr} {cdg : Value} {j1 j2 : Nat} {k1 k2 k3 : Nat} {p1 p2 p3 p4 p5 p6 p7 p8 p9 q1 q2 q3 q4 q5 q6 q7 q8 q9 r1 r2 r3 : Pos}
    (hge : sg.names.lookup e = some .globalImplicit) (hme : X.mg e = some (.ref CS)) (hde : (e == ("__debug__" : Str)) = false) (hc1 : sg.names.lookup cg = some .local) (hc2 : sg.names.lookup bk = some .local) (hc3 : sg.names.lookup er = some .local)
    (nd : [a, cg, bk, er].Nodup)
    (hw : ∀ env : Env, env.scope = sg → swappedStores [.Tuple [.Name cg p1, .Name bk p2] k1 p3] (.Tuple [.Constant .none j1 p4, .Constant .none j2 p5] k2 p6) env = pure none)
    (hs : ∀ env : Env, env.scope = sg → swapsWithSole [.Tuple [.Name cg p1, .Name bk p2] k1 p3] (.Tuple [.Constant .none j1 p4, .Constant .none j2 p5] k2 p6) p7.line env = pure false)
    (hsw : ∀ env : Env, env.scope = sg → swapsWith (.Call (.Name a p9) [] [] q1) (some (.Name bk p8)) q2.line env = pure false) (hsw2 : ∀ env : Env, env.scope = sg → swapsWith (.Name er q5) (some (.Name cg q4)) q6.line env = pure false)
    (d1 : (cg == ("__debug__" : Str)) = false) (d2 : (bk == ("__debug__" : Str)) = false) (d3 : (er == ("__debug__" : Str)) = false) (e1 : (cg == ("__classdict__" : Str)) = false) (e2 : (bk == ("__classdict__" : Str)) = false) (e3 : (er == ("__classdict__" : Str)) = false) : GivesS X [a, cg, bk, er] x sg g cdg
      [.Assign [.Tuple [.Name cg p1, .Name bk p2] k1 p3] (.Tuple [.Constant .none j1 p4, .Constant .none j2 p5] k2 p6) p7,
       .Try [.Assign [.Name bk p8] (.Call (.Name a p9) [] [] q1) q2] [.ExceptHandler (some (.Name e q3)) (some er) [.Assign [.Name cg q4] (.Name er q5) q6] q7] [] [] q8,
       .Return (some (.Tuple [.Name cg q9, .Name bk r1] k3 r2)) r3] a q (THeard X.K CS) := by
  intro f c' s H Q tl act hc h
  let Z := (Zg X [a, cg, bk, er] x sg g cdg s H).nox
  have es : Z.env.scope = sg := rfl
  have hgl : Gl Z e := hge
  refine ⟨_, pss_cons (ps_asg (X := Z) (pe_tup (pa_cons pe_non (pa_cons pe_non pa_nil))) (pg_tup rfl (pgs_cons (pg_name (i := 1) nd rfl (.inl hc1) (.inr hc1)) (pgs_cons (pg_name (i := 2) nd rfl (.inl hc2) (.inr hc2)) pgs_nil))) (hs _ es) (hw _ es))
    (pss_cons (ps_keep (X := Z) (i := 3) (c := .ref CS) (Wo := fun _ _ _ _ => False) (ts := fun _ _ _ => tAsg (tVar 3) (gName 1))
      (tb := fun W D σ H => ∃ Ech : XK, (∀ cls d G, Ech cls d G → W cls d σ G) ∧ σ[0]? = some (some (.ref f)) ∧ H c' = some (CodeO c' q) ∧ ∃ R, tl Ech H R ∧ ∀ v G, R v G → D.nx (σ.set 2 (some v)) G)
      rfl rfl rfl nd rfl hc3 ⟨hgl, hde, .inl hme⟩ L2.takes0 (fun W pn xe tk _ => ?_) (fun a oe cls d pn _ _ => pss_one (ps_set nd rfl (.inl hc1) (pe_var rfl (.inl hc3) d3 e3) (hsw2 _ es) (.inr hc1))))
    (pss_one (ps_ret (pe_tup (pa_cons (pe_var (i := 1) rfl (.inl hc1) d1 e1) (pa_cons (pe_var (i := 2) rfl (.inl hc2) d2 e2) pa_nil)))))), ?_⟩
  · constructor
    rintro pins s' σ G D I ⟨Ech, hW, h1, h2, R, h3, h4⟩
    have one := act σ W pn xe Ech p9 q1 tk hW
    have two := pss_one (ps_set (i := 2) (pos := q2) (pos' := p8) nd rfl (.inl hc2) (PE.up one) (hsw _ es) (.inr hc2))
    exact two.run pins s' σ G D I ⟨R, ⟨rfl, h1, h2, h3⟩, h4⟩
  · refine ⟨by show 2 ≤ sizeLine; rw [sizeLine_eq]; omega, fun p0 hp0 => ?_⟩
    have hc0 : upd H p0 (.tup [.non, .non]) c' = some (CodeO c' q) := by rw [upd_ne (ne_of_none hc hp0)]; exact hc
    refine ⟨p0, [.non, .non], rfl, .inl (.inl upd_same), rfl, ?_⟩
    refine ⟨.non, [.non], rfl, .non, [], rfl, rfl, ?_⟩
    refine ⟨fun cls d G => PySem.W.exmOne X.K cls (.ref CS) = some true ∧ ∀ a, G a = none → ∀ p, clm cls d a G p = none → Q (.ref p) (upd (clm cls d a G) p (.tup [.ref a, .non])), ?_, rfl, hc0, ?_⟩
    · rintro cls d G ⟨b1, b2⟩
      refine ⟨true, b1, fun z => (Bool.noConfusion z), fun _ b hb => ?_⟩
      refine ⟨.ref b, rfl, ?_⟩
      refine ⟨.ref b, rfl, .non, rfl, ?_⟩
      refine ⟨by show 2 ≤ sizeLine; rw [sizeLine_eq]; omega, fun p hp => b2 b hb p hp⟩
    · refine ⟨_, h p0 hp0, fun v G hv => ?_⟩
      refine ⟨.non, rfl, ?_⟩
      refine ⟨v, rfl, ?_⟩
      refine ⟨by show 2 ≤ sizeLine; rw [sizeLine_eq]; omega, fun p hp => hv p hp⟩
end
end DL

set_option maxHeartbeats 4000000
/-! DX4d: heard(lambda: e) over data. -/
namespace DL
open PySem PySem.Spec L2 LamX
open PyProof.Rows hiding St

/-- a state behind a given one -/
def fromY {K : PySem.W.Frag} (Y : KJ K) (F : Hp) (M : Mp) (H : Hp) : KJ K where
  T := Y.T
  J := fun F' M' H' => StpR K Y.T F M H F' M' H' ∧ Y.J F' M' H'
  cl := fun ⟨a, j⟩ s => ⟨a.trans s, Y.cl j s⟩
/-- the tables may grow -/
theorem RelR.ext {K : PySem.W.Frag} {T : TT8} {F : Hp} {M : Mp} {H H1 : Hp} (R : RelR K F M H) (e : ExtN H H1) (t : Tabs T H → Tabs T H1) : StpR K T F M H F M H1 := by
  refine ⟨Same.refl F, ⟨fun a o q => e a o (R.sub a o q) fun ps z => R.nt a ps (by rw [q, z]), fun a m q => ?_, R.nt⟩, fun a o q f m n => ⟨e a o q n, f, m⟩, t⟩
  obtain ⟨f, o, e1, r⟩ := R.mt a m q
  refine ⟨f, o, e a o e1 ?_, r⟩
  rintro ps rfl
  cases m
  exact r.elim
theorem exK_tbl {C dx a : Addr} (ps : Array Value) : ExK C dx a ≠ .tbl ps := fun z => by
  unfold ExK at z
  cases z
def dHeard (ok : Str → Prop) (td : DXK → DTE) : DTE := fun ρ M Q => td (fun x v M1 => ok x ∧ Q (.tup [.exc x v, .non]) M1) ρ M fun v M1 => Q (.tup [.non, v]) M1
section
variable {X : Cx} {Y : KJ X.K}
theorem de_heard {x a : Str} {st : Stmt} {Ng : List Str} {CS c P : Addr} {k : Nat} {params : Arguments} {body : Expr} {scope : Scope} {td : DXK → DTE} {ok : Str → Prop} {p lpos pos : Pos}
    (D : Has X.K X.mg x x st [a] []) (S : FnScope Ng [a] (defScope st)) (give : ∀ (g : Addr) (cdv : Value) (q : Str), GivesS X Ng x (defScope st) g cdv (defBody st) a q (THeard X.K CS))
    (tb : TabB X.base X.mg c P) (cod : X.env.code = .ref c) (inT : (P, X.env.qual ++ "<lambda>") ∈ Y.T) (onlyT : ∀ p ∈ Y.T, p.1 = P → p.2 = X.env.qual ++ "<lambda>")
    (sub : ∀ n C, ok n → PySem.W.nsIn X.K mainGlobals n = some (some (.ref C)) → PySem.W.exmOne X.K (.ref C) (.ref CS) = some true) (hr : Room (k + 2) X.A) (gu : X.A.guards = some []) (xt : XT Y) (L : LamS X.env.scope scope)
    (inner : ∀ (A : Around) (outer : List Env) (s : Shared) (H : Hp) (E : XK) (f c' : Addr) (Y' : KJ X.K) (E1 : DXK), Y'.T = Y.T → Room k (A.deeper (lamEnv X scope s.heap.objs.size f c')) → (A.deeper (lamEnv X scope s.heap.objs.size f c')).guards = some [] →
      XG (lamCx X A outer s H E scope f c') Y' E1 → DE (lamCx X A outer s H E scope f c') Y' body (td E1))
    (nodef : defaultsOf params X.env = ([], []) := by rfl) (noarg : ∀ (q : Str) (cl : List (Str × Addr)) (pm cv ctv : Value), bindArgs (PySem.W.kla_fn "<lambda>" q params body scope cl pm cv ctv) ⟨[], []⟩ = pure [] := by intros; rfl)
    (gl : Gl X x := by rfl) (N0 : Ng[0]? = some a := by rfl) (vis : Vis (defScope st) a := by first | exact Or.inl rfl | exact Or.inr (Or.inl rfl))
    (n1 : (x == ("__debug__" : Str)) = false := by decide) (n2 : (a == ("__debug__" : Str)) = false := by decide) (n3 : (a == ("__classdict__" : Str)) = false := by decide) :
    DE X Y (.Call (.Name x p) [.Lambda params body scope lpos] [] pos) (dHeard ok td) := by
  obtain ⟨g, oc, od, dV, kV, doc, pm, an, cdv, ct, osl, us, dvs, lk, hcd, kp, m, bi, vd, rd⟩ := D.ex
  have u0 : us = [] ∧ dvs = [] := by
    have := rd (fun _ => none)
    cases this
    cases vd
    exact ⟨rfl, rfl⟩
  obtain ⟨rfl, rfl⟩ := u0
  refine PE.weak (pe_lamS (T := Y.T) (TT := THeard X.K CS) (k := k) (t := fun E0 σ G R => ∃ (Y' : KJ X.K) (E1 : DXK), Y'.T = Y.T ∧ (∀ F M H, Y'.J F M H → Tabs Y'.T H) ∧ (∀ F M H x v cls d, Rel Y' F M H → ExR X.K F x v cls d → E1 x v M → E0 cls d H) ∧ canE Y' (td E1) σ G R)
    gl m kp lk hcd bi S N0 vis (give g cdv _) tb cod inT onlyT hr L nodef noarg ?_ n1 n2 n3) ?_
  · intro A outer s H E f c' gA r
    constructor
    rintro pins s1 σ H1 Q I ⟨Y', E1, eT, tabs, wish, can⟩
    exact (inner A outer s H E f c' Y' E1 eT r (gA.trans gu) ⟨tabs, _, takes_of rfl rfl rfl rfl, fun σ F M H x v cls d R e z => wish F M H x v cls d R e z⟩).run pins s1 σ H1 Q I can
  · rintro σ H Q0 ⟨F, M, ρ, Q, rs, r, q, kk⟩
    refine ⟨xt.tabs _ _ _ r.j, fun H1 eN T1 => ?_⟩
    have st := r.r.ext eN (fun _ => T1)
    intro p0 hp0
    have sp := RelR.newF (T := Y.T) st.rel hp0 (.tup [.non, .non]) (fun ps w => by cases w)
    have st := st.trans sp
    have r1 : Rel (fromY Y (upd F p0 (.tup [.non, .non])) M (upd H1 p0 (.tup [.non, .non]))) (upd F p0 (.tup [.non, .non])) M (upd H1 p0 (.tup [.non, .non])) := ⟨st.rel, StpR.refl st.rel, Y.cl r.j st⟩
    refine ⟨fromY Y (upd F p0 (.tup [.non, .non])) M (upd H1 p0 (.tup [.non, .non])), fun x v M1 => ok x ∧ Q (.tup [.exc x v, .non]) M1, rfl, fun F M H j => xt.tabs _ _ _ j.2, ?_, _, M, ρ, _, rs.mono sp.same, r1, q, ?_⟩
    · rintro F2 M2 H2 n v cls d R2 ⟨C, dx, u, en, rfl, rfl, ed, ru⟩ ⟨okn, z⟩
      refine ⟨sub n C okn en, fun a ha p hp => ?_⟩
      rw [clm_of] at hp ⊢
      have s1 := RelR.newF (T := Y.T) R2.r ha (ExK C dx a) exK_tbl
      have s2 := RelR.newF (T := Y.T) s1.rel hp (.tup [.ref a, .non]) (fun ps w => by cases w)
      have ne : a ≠ p := fun w => by rw [w, upd_same] at hp; cases hp
      have nd : dx ≠ a := fun w => by rw [w, R2.r.fnone ha] at ed; cases ed
      refine kk (.ref p) (.tup [.exc n v, .non]) _ _ _ (Stp.of r ((st.trans R2.j.1).trans (s1.trans s2))) (.tup (.inl (.inl upd_same)) (.cons (.exc (dx := dx) en ?_ ?_ (ru.mono (s1.same.trans s2.same))) (.cons .non .nil))) z
      · exact s2.same _ _ upd_same
      · exact s2.same _ _ (s1.same _ _ ed)
    · intro v d F2 M2 H2 s2 rp q2 p hp
      have s3 := RelR.newF (T := Y.T) s2.rel.r hp (.tup [.non, v]) (fun ps w => by cases w)
      exact kk (.ref p) (.tup [.non, d]) _ _ _ (Stp.of r ((st.trans s2.s).trans s3)) (.tup (.inl (.inl upd_same)) (.cons .non (.cons (rp.mono s3.same) .nil))) q2
end
end DL

set_option maxHeartbeats 4000000
/-! DX5: a known exception: its value, its class. -/
namespace DL
open PySem PySem.Spec L2
open PyProof.Rows hiding St

/-- the exception classes that may be heard -/
structure Known (K : PySem.W.Frag) (kn : Str → Prop) : Prop where
  of : ∀ x C, kn x → PySem.W.nsIn K mainGlobals x = some (some (.ref C)) → XfC K C ∧ ExcC K C ∧ PySem.W.findIn K (.ref C) "value" = some none
/-- each class under x is one of the class at CY just if b x -/
def SubsOf (K : PySem.W.Frag) (kn : Str → Prop) (CY : Addr) (b : Str → Bool) : Prop := ∀ x C, kn x → PySem.W.nsIn K mainGlobals x = some (some (.ref C)) → PySem.W.kitOne K (.ref C) (.ref CY) = some (b x)
section
variable {X : Cx} {Y : KJ X.K} {p p' pos : Pos} {e : Expr} {t : DTE} {kn : Str → Prop}
theorem inst_exc {pins : List (Addr × Obj)} {σ : L2.St} {H : Hp} {s : Shared} {a C dx : Addr} {fs : List (Str × V)} (I : Inv X pins σ H s) (h1 : H a = some (ExK C dx a)) (h2 : H dx = some (.xd fs)) :
    ∃ (oe od : Obj) (mA : Str → Option Value), PySem.W.InstAt s.heap a oe C (some od) ∧ (∀ n, PySem.W.lookIn n od = some (mA n)) ∧ ∀ f, RelO (fs.lookup f) (mA f) := by
  obtain ⟨⟨oe, vs, he, hz, hd⟩, _, _⟩ := I.hok a _ h1
  have hx : ObjOk X.prog X.w H s.heap dx (.xd fs) := I.hok dx _ h2
  obtain ⟨mA, hns, hr⟩ := hx
  obtain ⟨od, ho, hl⟩ := lookIn_ns hns
  exact ⟨oe, od, mA, ⟨he, hz.1, by unfold PySem.W.notCls; rw [hd] <;> rfl, by rw [hz.2]; exact ho⟩, hl, hr⟩
/-- e.value -/
def dExcV (kn : Str → Prop) (t : DTE) : DTE := fun ρ M Q => t ρ M fun d M1 => ∃ x v, d = .exc x v ∧ kn x ∧ Q v M1
theorem de_excV (T : Known X.K kn) (he : DE X Y e t) (hb : attributeBase e "value" X.env (eval e X.env) = eval e X.env := by rfl) : DE X Y (.Attribute e "value" pos) (dExcV kn t) := by
  constructor
  rintro pins s σ H Q0 I ⟨F, M, ρ, Q, rs, rl, q, k⟩
  let R : VK := fun v H1 => ∃ (a C dx : Addr) (w : V), v = .ref a ∧ XfC X.K C ∧ PySem.W.findIn X.K (.ref C) "value" = some none ∧ H1 a = some (ExK C dx a) ∧ H1 dx = some (.xd [("value", w)]) ∧ Q0 w H1
  refine attr_of hb (thn (he.run pins s σ H R I ⟨F, M, ρ, _, rs, rl, q, fun v d F1 M1 H1 s1 rp q1 => ?_⟩) fun u s1 hh => ?_)
  · obtain ⟨x, w, rfl, kx, q2⟩ := q1
    cases rp with
    | exc en e1 e2 rw_ =>
      obtain ⟨k1, k2, k3⟩ := T.of _ _ kx en
      exact ⟨_, _, _, _, rfl, k1, k3, s1.rel.sub _ _ e1, s1.rel.sub _ _ e2, k _ _ F1 M1 H1 s1 rw_ q2⟩
  · obtain ⟨v, H1, I1, rv, a, C, dx, w, rfl, T1, no, e1, e2, q⟩ := hh
    obtain rfl : u = Value.ref a := rv
    obtain ⟨oe, od, mA, J, hl, hr⟩ := inst_exc I1 e1 e2
    obtain ⟨z, hz, rz⟩ := RelO.some_of (v := w) (o := mA "value") (hr "value")
    exact HandSPX.exc_get I1.kIn J T1.ga T1.gg T1.exC (PySem.W.findObj_own T1.hdC no rfl (by rw [hl, hz])) (handed_of rz) ⟨w, H1, I1.tok _, rz, q⟩
/-- isinstance(e, C) of a known exception -/
def rIsH (K : PySem.W.Frag) : List V → Hp → VK → Prop := fun xs H Q => ∃ (a C dx CY : Addr) (fs : List (Str × V)) (b : Bool), xs = [.ref a, .ref CY] ∧ H a = some (ExK C dx a) ∧ H dx = some (.xd fs) ∧ ExcC K C ∧ PySem.W.kitOne K (.ref C) (.ref CY) = some b ∧ Q (.bl b) H
theorem call_isH : CallR X (.builtin "isinstance") (rIsH X.K) := by
  rintro pins s σ H xs us Q I r ⟨a, C, dx, CY, fs, b, rfl, e1, e2, T, ek, q⟩
  cases r with
  | cons rx rr =>
    cases rr with
    | cons rt rr =>
      cases rr
      cases rx
      cases rt
      obtain ⟨oe, od, mA, J, hl, hr⟩ := inst_exc I e1 e2
      have cl : (PySem.W.clsIn X.K C).isSome = true := by
        obtain ⟨cd, hc, _⟩ := PySem.W.any_some T.hd
        unfold PySem.W.clsIn at hc ⊢
        rw [hc]; rfl
      exact PySem.W.kia_one (PySem.W.kitx_exc cl T.hg T.hk T.hs T.ha T.hn T.ht T.hm) I.kIn J ek (fun z => nomatch z) fun tk => ⟨.bl b, H, I.kept (t' := tk) fun _ _ z => z, rfl, q⟩
def dIsE (kn : Str → Prop) (b : Str → Bool) (t : DTE) : DTE := fun ρ M Q => t ρ M fun d M1 => ∃ x v, d = .exc x v ∧ kn x ∧ Q (.bl (b x)) M1
theorem de_isE {y : Str} {CY : Addr} {b : Str → Bool} (T : Known X.K kn) (sb : SubsOf X.K kn CY b) (m1 : X.mg "isinstance" = none) (m2 : X.mg y = some (.ref CY)) (he : DE X Y e t) (hg : Gl X "isinstance" := by rfl) (hg2 : Gl X y := by rfl) (hd : (y == ("__debug__" : Str)) = false := by decide)
    (s1 : starEach [e, .Name y p'] X.env = (false, eval e X.env) :: starEach [.Name y p'] X.env := by rfl) (s2 : starEach [.Name y p'] X.env = (false, eval (.Name y p') X.env) :: starEach [] X.env := by rfl)
    (hpl : (backTo pos (starEach [.Name y p'] X.env)).any (·.1) = false := by rfl) : DE X Y (.Call (.Name "isinstance" p) [e, .Name y p'] [] pos) (dIsE kn b t) := by
  have h2 : PE X (.Name y p') (tC (.ref CY)) := pe_glob hg2 m2 rfl hd
  refine PE.weak (pe_callB call_isH hg m1 (by decide +kernel) (pa_cons he (pa_cons h2 pa_nil s2) s1) (by decide) (by decide) s1 hpl) ?_
  rintro σ H Q0 ⟨F, M, ρ, Q, rs, rl, q, k⟩
  refine ⟨F, M, ρ, _, rs, rl, q, fun v d F1 M1 H1 s1 rp ⟨x, w, ed, kx, q1⟩ => ?_⟩
  subst ed
  cases rp with
  | exc en e1 e2 rw_ =>
    obtain ⟨k1, k2, k3⟩ := T.of _ _ kx en
    exact ⟨_, _, _, CY, _, b x, rfl, s1.rel.sub _ _ e1, s1.rel.sub _ _ e2, k2, sb x _ kx en, k _ _ F1 M1 H1 s1 (.bl _) q1⟩
end
end DL

set_option maxHeartbeats 4000000
/-! DX6: the end of a law whose defs make lambdas. -/
namespace DL
open PySem PySem.Spec L2 LamX
open PyProof.Rows hiding St

/-- an empty table of code objects -/
abbrev tab0 : Obj := { cls := .none, data := .fields #[] }
abbrev listO (vs : List Value) : Obj := { cls := .type "list", data := .seq vs.toArray }
/-- the law's call over the heap behind the top, with tables at ts -/
theorem glaw_callT {CXa : CXT} {P : Program} {w : World} {K : PySem.W.Frag} {mg mb : Str → Option Value} {k : Nat} {fa a : Addr} {fd : FuncData} {x : Str} {sp : Sp} {s0 : Shared} {vs : List Value} {ns : List Int} {cs : List (Addr × Addr)}
    (KX : K.In s0.heap) (hns : s0.heap.Ns mainGlobals mg) (hb : s0.heap.Ns builtinsNs mb) (hbb : ∀ x : Str, x ≠ "__name__" → mb x = bootBuiltins x) (hlim : s0.heap.NoLimit) (hg : s0.gens = #[])
    (tz : ∀ c ∈ cs, s0.heap.get? c.2 = some tab0) (tn : ∀ c ∈ cs, K.lookup c.2 = none) (hd : ∀ c ∈ cs, PySem.W.CodeHd s0.heap c.1 c.2)
    (bmn : ∃ (bm : Addr) (ob : Obj), mg "__builtins__" = some (.ref bm) ∧ bm ≠ builtinsNs ∧ s0.heap.get? bm = some ob ∧ ob.cls = .type "module" ∧ ob.dict = some builtinsNs ∧ ob.data = .plain)
    (ha : s0.heap.get? a = some (listO vs)) (hi : IntsAre vs ns) (hl : ns.length ≤ sizeLine) (room : Room k callerA)
    (G : ∀ base : Heap, K.In base → base.Ns mainGlobals mg → (∀ c ∈ cs, TabB base mg c.1 c.2) → GnOk P w K mg base CXa k fa fd [x] sp) (nothing : ∀ outer H s e s', ¬ CXa outer H s (fun _ _ _ => False) e s') (bind1 : ∀ (s : Shared) (u : Value), BindsTo s fd ⟨[u], []⟩ [(x, u)])
    (due : ∀ H : Hp, (∀ c ∈ cs, H c.2 = some (.tbl #[])) → SqL K H a (ns.map V.int) → sp [.ref a] H (fun v _ => v = .bl true) fun _ _ _ => False) :
    codeAny (model P w) callerA (.call (.ref fa) ⟨[.ref a], []⟩) (fun r s' => r = .ok (.ret (.bool true)) ∧ OldK s0.heap s'.heap ∧ s'.os = s0.os ∧ AllBare s'.gens) s0 := by
  have rv := vals_ints hi
  have many := hi.length
  let ts : List Addr := cs.map Prod.snd
  have inT : ∀ {c}, c ∈ cs → c.2 ∈ ts := fun h => List.mem_map.mpr ⟨_, h, rfl⟩
  have atT : ∀ {b}, b ∈ ts → s0.heap.get? b = some tab0 := by
    intro b h
    obtain ⟨c, h1, rfl⟩ := List.mem_map.mp h
    exact tz c h1
  have aT : a ∉ ts := by
    intro h
    have z := (atT h).symm.trans ha
    cases congrArg Obj.data (Option.some.inj z)
  have main : ∀ H : Hp, (∀ b ∈ ts, H b = some (.tbl #[])) → (∀ b, b ∉ ts → H b = none ∨ ∃ o xs, H b = some (.frz o (.lst xs))) → SqL K H a (ns.map V.int) → HOk P w H s0.heap → (∀ b, H b ≠ none → b = a ∨ b ∈ ts) → (H a ≠ none → K.lookup a = none) →
      codeAny (model P w) callerA (.call (.ref fa) ⟨[.ref a], []⟩) (fun r s' => r = .ok (.ret (.bool true)) ∧ OldK s0.heap s'.heap ∧ s'.os = s0.os ∧ AllBare s'.gens) s0 := by
    intro H hT only hS ok hA hK
    have two : ∀ {b : Addr} {z : HO}, H b = some z → b = a ∨ b ∈ ts := fun {b z} q => hA b (by rw [q]; exact fun y => by cases y)
    -- what is neither a list nor an empty table is not told
    have off : ∀ {b : Addr} {o : Obj}, s0.heap.get? b = some o → (∀ vs n, o.data ≠ .seq vs n) → o.data ≠ .fields #[] → H b = none := by
      intro b o e n1 n2
      cases q : H b with
      | none => rfl
      | some u =>
        rcases two q with rfl | h
        · rw [ha] at e; cases e; exact (n1 _ _ rfl).elim
        · rw [atT h] at e; cases e; exact (n2 rfl).elim
    have plain : ∀ {b : Addr} {o : Obj} {es : Array DictEntry} {ep : Nat}, s0.heap.get? b = some o → o.data = .dict es ep → H b = none := by
      intro b o es ep e d
      exact off e (fun _ _ z => by rw [d] at z; cases z) (fun z => by rw [d] at z; cases z)
    have ns' : ∀ {b : Addr} {m : Str → Option Value}, s0.heap.Ns b m → (hidT s0.heap H).Ns b m := by
      rintro b m ⟨o, es, ep, e, d, r⟩
      exact ⟨o, es, ep, hidT_get e (plain e d), d, r⟩
    have Kb : K.In (hidT s0.heap H) := by
      intro b o e
      refine hidT_get (KX b o e) ?_
      cases q : H b with
      | none => rfl
      | some u =>
        rcases two q with rfl | h
        · rw [hK (by rw [q]; exact fun y => by cases y)] at e; cases e
        · obtain ⟨c, h1, rfl⟩ := List.mem_map.mp h
          rw [tn c h1] at e; cases e
    have TB : ∀ c ∈ cs, TabB (hidT s0.heap H) mg c.1 c.2 := by
      intro c hc
      obtain ⟨og, eg, pg, e0, dg, _⟩ := hns
      have dg' : ∀ {b}, s0.heap.get? b = some og → b ∉ ts := fun {b} e h => by rw [atT h] at e; cases e; cases dg
      refine ⟨?_, ?_, fun z => dg' e0 (z ▸ inT hc)⟩
      · obtain ⟨o, us, file, tf, flags, tg, inF, text, tt, e1, r1, r2, r3, rest⟩ := hd c hc
        refine ⟨o, us, file, tf, flags, tg, inF, text, tt, hidT_get e1 (off e1 (fun _ _ z => by rw [r2] at z; cases z) fun z => ?_), r1, r2, r3, rest⟩
        rw [r2] at z
        cases z
        simp at r3
      · obtain ⟨bm, ob, m1, m2, m3, m4, m5, m6⟩ := bmn
        have nG : bm ≠ mainGlobals := by
          rintro rfl
          rw [e0] at m3; cases m3
          rw [dg] at m6; cases m6
        have nP : bm ≠ c.2 := by
          rintro rfl
          rw [tz c hc] at m3; cases m3
          cases m6
        exact ⟨bm, ob, m1, m2, nG, nP, hidT_get m3 (off m3 (fun _ _ z => by rw [m6] at z; cases z) fun z => by rw [m6] at z; cases z), m4, m5, m6⟩
    have e0 : Env0 P w K mg (hidT s0.heap H) callerA [] s0 H := by
      refine ⟨rfl, ⟨Kb, ns' hns, ⟨mb, ns' hb, hbb⟩, ?_⟩, fun b o e => of_hidT e, Nat.le_of_eq (hidT_size _ _), trivial, ?_, ok, .of_eq hg⟩
      · obtain ⟨mc, h1, h2⟩ := hlim
        exact ⟨mc, ns' h1, h2⟩
      · intro b hb
        exact absurd (show b ∈ ([] : List Addr) from hb) (by simp)
    refine codeAny_mono ((G _ Kb (ns' hns) TB).go (args := ⟨[.ref a], []⟩) (us := [.ref a]) (vs := [V.ref a]) room rfl e0 (bind1 s0 (.ref a)) (.cons rfl .nil) (due H (fun c hc => hT _ (inT hc)) hS)) ?_
    intro r s' z
    match r, z with
    | .error _, z => exact absurd z (nothing _ _ _ _ _)
    | .ok .next, z => exact z.elim
    | .ok .brk, z => exact z.elim
    | .ok .cont, z => exact z.elim
    | .ok (.ret u), ⟨v, H', os, bare, un, ok', r', q⟩ =>
      obtain rfl : v = .bl true := q
      obtain rfl : u = Value.bool true := r'
      have stays : ∀ b o, b ∉ ts → s0.heap.get? b = some o → s'.heap.get? b = some o := by
        intro b o nb e
        cases q : H b with
        | none => exact un.keep b o e q (fun z => absurd (show b ∈ ([] : List Addr) from z) (by simp)) (by simp)
        | some u =>
          rcases only b nb with z | ⟨ob, xs, z⟩
          · rw [q] at z
            cases z
          · have e1 := (ok b _ z).1
            have e2 := (ok' b _ (un.frzs b ob _ z)).1
            rw [e] at e1
            cases e1
            exact e2
      have grows : ∀ b ∈ ts, ∃ more : Array Value, s'.heap.get? b = some { cls := .none, data := .fields more } := by
        intro b h
        obtain ⟨more, z⟩ := un.tbls b #[] (hT b h)
        exact ⟨_, ok' b _ z⟩
      refine ⟨rfl, ⟨fun b o e => ?_, fun b o e => ?_⟩, os, bare⟩
      · by_cases h : b ∈ ts
        · obtain ⟨more, m⟩ := grows b h
          obtain ⟨c, h1, rfl⟩ := List.mem_map.mp h
          rw [tz c h1] at e
          cases e
          exact .inr (.inl ⟨((hd c h1).tab (tz c h1)).isCodeTable, rfl, #[], more, rfl, by rw [Array.empty_append]; exact m⟩)
        · exact .inl (stays b o h e)
      · by_cases h : b ∈ ts
        · obtain ⟨more, m⟩ := grows b h
          exact ⟨_, m⟩
        · exact ⟨o, stays b o h e⟩
  cases hk : K.lookup a with
  | some o =>
    have e := KX a o hk
    rw [ha] at e
    cases e
    refine main (fun b => if b ∈ ts then some (.tbl #[]) else none) (fun b h => if_pos h) (fun b h => .inl (if_neg h)) (.inr ⟨_, vs.toArray, _, hk, rfl, rfl, rfl, by rw [List.size_toArray, many]; exact hl, by simpa using rv⟩) ?_ ?_ fun z => absurd (if_neg aT) z
    · intro b u z
      by_cases h : b ∈ ts
      · have z' := (if_pos h).symm.trans z
        cases z'
        exact atT h
      · have z' := (if_neg h).symm.trans z
        cases z'
    · intro b z
      by_cases h : b ∈ ts
      · exact .inr h
      · exact absurd (if_neg h) z
  | none =>
    have at1 : (if a = a then some (HO.frz (listO vs) (.lst (ns.map V.int))) else if a ∈ ts then some (.tbl #[]) else none) = some (.frz (listO vs) (.lst (ns.map V.int))) := if_pos rfl
    refine main (fun b => if b = a then some (.frz (listO vs) (.lst (ns.map V.int))) else if b ∈ ts then some (.tbl #[]) else none) ?_ ?_ (.inl (.inr ⟨_, at1⟩)) ?_ ?_ fun _ => hk
    · intro b h
      have ne : b ≠ a := fun z => aT (z ▸ h)
      exact (if_neg ne).trans (if_pos h)
    · intro b h
      by_cases e : b = a
      · exact .inr ⟨_, _, if_pos e⟩
      · exact .inl ((if_neg e).trans (if_neg h))
    · intro b u z
      by_cases e : b = a
      · have z' := (if_pos e).symm.trans z
        cases z'
        subst e
        exact ⟨ha, by rw [List.length_map]; exact hl, vs, _, rv, ha⟩
      · have z1 := (if_neg e).symm.trans z
        by_cases h : b ∈ ts
        · have z' := (if_pos h).symm.trans z1
          cases z'
          exact atT h
        · have z' := (if_neg h).symm.trans z1
          cases z'
    · intro b z
      by_cases e : b = a
      · exact .inl e
      · by_cases h : b ∈ ts
        · exact .inr h
        · exact absurd ((if_neg e).trans (if_neg h)) z
/-- the defs that make lambdas: each with its code object and its table -/
def TabsOf (q : Program) (K : PySem.W.Frag) (cs : List (Str × Addr × Addr)) : Prop := ∀ c ∈ cs, ((recsOf q).find? fun e => e.name == c.1).isSome = true ∧ PySem.W.tabIn K c.1 = some c.2 ∧ K.lookup c.2.2 = none
theorem gwalkT {l : PySem.W.OpenLaw} {n k : Nat} {q : Program} {loose : List Str} {XP : (Str → Option Value) → Heap → Prop} {YP : World → Heap → Prop} {d : DefRec} {K : Params → PySem.W.Frag} {x : Str}
    (most : l.most = some n) (le : n ≤ sizeLine) (dfl : d.params.defaults = []) (room : Room k callerA) (inY : ∀ (w : World) (h : Heap), YP w h → (K w.params).In h)
    (G : ∀ (w : World) (mg : Str → Option Value) (fa : Addr) (h : Heap), (K w.params).In h → h.Ns mainGlobals mg → mg d.name = some (.ref fa) →
      ∃ (cs : List (Str × Addr × Addr)) (sp : Sp) (fd : FuncData), TabsOf q (K w.params) cs ∧ (∀ (s : Shared) (u : Value), BindsTo s fd ⟨[u], []⟩ [(x, u)]) ∧
        (∀ (H : Hp) (a : Addr) (ns : List Int), ns.length ≤ n → (∀ c ∈ cs, H c.2.2 = some (.tbl #[])) → SqL (K w.params) H a (ns.map V.int) → sp [.ref a] H (fun v _ => v = .bl true) fun _ _ _ => False) ∧
        ∀ base : Heap, (K w.params).In base → base.Ns mainGlobals mg → (∀ c ∈ cs, TabB base mg c.2.1 c.2.2) → GnOk l.prog w (K w.params) mg base (L2.CX l.prog w) k fa fd [x] sp) :
    PySem.W.WalkO q loose XP YP l.row.toRowW d [] (fun f vs => PySem.call f vs) := by
  refine Att.attach_call most dfl ?_
  intro w s0 s1 mg mb fa o pm cd doc a vs ns G0 Y ho hd hcd hmg hobj hints hlen hg
  have KX := inY w _ Y
  obtain ⟨cs, sp, fd, tabs, hb, due, hF⟩ := G w mg fa _ KX G0.T.g hmg
  have look : ∀ c ∈ cs.map Prod.snd, ∃ c0 ∈ cs, c = c0.2 ∧ PySem.W.CodeHd s1.heap c.1 c.2 ∧ s1.heap.get? c.2 = some tab0 := by
    intro c hc
    obtain ⟨c0, h0, rfl⟩ := List.mem_map.mp hc
    obtain ⟨f1, f2, f3⟩ := tabs c0 h0
    obtain ⟨dr, hdr⟩ := Option.isSome_iff_exists.mp f1
    obtain ⟨g1, g2⟩ := PySem.W.tab_of G0.T KX hdr f2
    exact ⟨c0, h0, rfl, g1, g2⟩
  refine glaw_callT (cs := cs.map Prod.snd) KX G0.T.g G0.T.b G0.T.builtins G0.T.nolimit hg (fun c hc => ?_) (fun c hc => ?_) (fun c hc => ?_) G0.T.bmain hobj hints (Nat.le_trans hlen le) room (fun base KB NB TB => hF base KB NB fun c hc => TB c.2 (List.mem_map.mpr ⟨c, hc, rfl⟩))
    (fun _ _ _ _ _ ⟨_, _, _, _, _, _, _, _, _, _, _, _, z⟩ => z) hb fun H hT hS => due H a ns hlen (fun c hc => hT c.2 (List.mem_map.mpr ⟨c, hc, rfl⟩)) hS
  · obtain ⟨_, _, _, _, z⟩ := look c hc; exact z
  · obtain ⟨c0, h0, rfl, _⟩ := look c hc; exact (tabs c0 h0).2.2
  · obtain ⟨_, _, _, z, _⟩ := look c hc; exact z
/-- the tables are in order at the law's start -/
theorem tabs0 {H : Hp} {cs : List (Str × Addr × Addr)} (f : Str → Str) (h : ∀ c ∈ cs, H c.2.2 = some (.tbl #[])) : Tabs (cs.map fun c => (c.2.2, f c.1)) H := by
  intro p hp
  obtain ⟨c, hc, rfl⟩ := List.mem_map.mp hp
  exact .nil (h c hc)
end DL

set_option maxHeartbeats 4000000
/-! DL13: enumerate over a text, range with a step, min of three, tuple(..), targets out of a list, a def in a slot. -/
namespace DL
open PySem PySem.Spec L2
open PyProof.Rows hiding St

section
variable {X : Cx} {Y : KJ X.K} {pos p tpos : Pos} {e e2 e3 : Expr} {t u v : DTE} {elts : List Expr} {kk : Nat}
/-! ### enumerate over a text -/
def numD (xs : List DL.D) : List DL.D := (xs.zipIdx).map fun p => .tup [.int (p.2 : Nat), p.1]
def IteS (x : Str) : It := ⟨fun i _ => i < x.cps.size,
  fun i H v H' => ∃ T c, v = .ref T ∧ H T = none ∧ H' = upd H T (.tup [.int (i : Nat), .str ⟨#[c]⟩]) ∧ x.cps[i]? = some c,
  fun i _ => i = x.cps.size⟩
theorem turn_enumS {P : Program} {w : World} {K : PySem.W.Frag} {a it : Addr} {x : Str} {tk : Tok} (ne : a ≠ it) :
    Turn P w K (.Tuple elts kk tpos) (IteS x) [a, it] a (fun i h => (∃ old, IsEnum h a it ((i : Nat) : Int) old) ∧ h.IsStrIter it (strIterType x) x tk i) where
  mem := by simp
  obj := fun i h st c hc => by
    obtain ⟨⟨old, he⟩, o, e1, _, d1⟩ := st
    have e' : c = a ∨ c = it := by simpa using hc
    rcases e' with q | q
    · rw [q]; exact ⟨_, he, fun v q => nomatch q⟩
    · rw [q]; exact ⟨o, e1, fun v q => by rw [d1] at q; cases q⟩
  keep := fun i h h' st kp => by
    obtain ⟨⟨old, he⟩, o, e1, c1⟩ := st
    exact ⟨⟨old, kp a (by simp) _ he⟩, o, kp it (by simp) o e1, c1⟩
  item := by
    intro X hP hw hK hc i pins s σ H E I hf st hg
    subst hP hw hK
    obtain ⟨⟨old, he⟩, hs⟩ := st
    have D1 := Draws.text (prog := X.prog) (w := X.w) (A := X.A.in1) (I.ok.hd hc) it x tk
    have al : a < s.heap.objs.size := Heap.lt_size he
    have il : it < s.heap.objs.size := by obtain ⟨_, z, _⟩ := hs; exact Heap.lt_size z
    refine wpAny_pyNext_enum_itemD D1 he hs hg ne (by simpa using ne) fun y h' tk' py out hs' hT hsz hk => ?_
    obtain ⟨c, u, hx, rfl⟩ := py
    refine ⟨_, rfl, wpAny_letOwnedTupleGo_enum (s := { s with heap := h', toks := tk' + 1 }) out fun h'' he' sb => ?_⟩
    have hT2 : h''.get? s.heap.objs.size = some { cls := .type "tuple", data := .seq #[.int (i : Nat) tk', .str ⟨#[c]⟩ u] } := (sb.2 _ (Nat.ne_of_gt al)).trans hT
    have new : ObjOk X.prog X.w (upd H s.heap.objs.size (.tup [.int (i : Nat), .str ⟨#[c]⟩])) h'' s.heap.objs.size (.tup [.int (i : Nat), .str ⟨#[c]⟩]) :=
      ⟨by show 2 ≤ sizeLine; decide, [.int (i : Nat) tk', .str ⟨#[c]⟩ u], .cons ⟨_, rfl⟩ (.cons ⟨u, rfl⟩ .nil), ⟨_, hT2, rfl, _, rfl⟩⟩
    have I1 : Inv X pins σ (upd H s.heap.objs.size (.tup [.int (i : Nat), .str ⟨#[c]⟩])) { s with heap := h'', toks := tk' + 1 } :=
      I.turnedNew (t' := tk' + 1) (ch := [a, it]) (fun b o hb q => (sb.2 b (fun z => hb (by simp [z]))).trans (hk b o (fun z => hb (by simp [z])) (fun z => hb (by simp [z])) q)) hf (Nat.le_refl _) new
    refine ⟨.ref s.heap.objs.size, _, I1, rfl, ⟨_, c, rfl, I.hok.fresh (Nat.le_refl _), rfl, hx⟩, ⟨⟨.str ⟨#[c]⟩ u, ?_⟩, ?_⟩, fun b hb => ?_⟩
    · have e1 : ((i + 1 : Nat) : Int) = (i : Int) + 1 := by omega
      rw [e1]; exact he'
    · obtain ⟨o, e1, c1⟩ := hs'
      exact ⟨o, (sb.2 _ (fun q => ne q.symm)).trans e1, c1⟩
    · have e' : b = a ∨ b = it := by simpa using hb
      have lt : b < s.heap.objs.size := by rcases e' with q | q <;> rw [q] <;> assumption
      rw [upd_ne (Nat.ne_of_lt lt)]
      exact (hf b hb).1
  done := by
    intro X hP hw hK hc i pins s σ H E I hf st hg
    subst hP hw hK
    obtain ⟨⟨old, he⟩, hs⟩ := st
    obtain ⟨f0, f1, f2, f3, f4, f5⟩ := hf it (by simp)
    have D1 := Draws.text (prog := X.prog) (w := X.w) (A := X.A.in1) (I.ok.hd hc) it x tk
    have hg' : i = x.cps.size := hg
    subst hg'
    exact wpAny_pyNext_enum_endD D1 he hs fun h' eb => ⟨rfl, I.turned (t' := s.toks) (fun b o hb q => eb b o hb q) f0 f1 f3 f4 f5⟩
  self := fun A i s Q E st h => let ⟨⟨_, he⟩, _⟩ := st; wpAny_pyIter_enum he h
def iEnumS (ta : TA) : TI := fun σ H R => ta σ H fun vs H1 => ∃ x, vs = [.str x] ∧ R (IteS x) H1
theorem pi_enumS {ta : TA} (hg : Gl X "enumerate") (hm : X.mg "enumerate" = none) (ha : PA X [e] ta) (hs : starEach [e] X.env = (false, eval e X.env) :: starEach [] X.env) :
    PI X (.Tuple elts kk tpos) (.Call (.Name "enumerate" p) [e] [] pos) (iEnumS ta) := by
  constructor
  intro pins s σ H R I h
  refine Call_ (ld_blt I hg hm boot_enumerate (PyProof.Rows.callWith_type1 (thn (ha.run pos pins s σ H _ I h) ?_) hs rfl))
  rintro us s1 ⟨vs, H1, I1, r1, x, rfl, q⟩
  obtain ⟨u1, rfl, ⟨t1, rfl⟩⟩ := vals1 r1
  refine call_enumerate_str fun h' he hit hsz hk => wpAny_pyIter_enum he ?_
  have I2 : Inv X pins σ H1 { s1 with heap := h' } := I1.kept (t' := s1.toks) hk
  refine ⟨s1.heap.objs.size + 1, [s1.heap.objs.size + 1, s1.heap.objs.size], _, _, H1, rfl, I2, turn_enumS (Nat.succ_ne_self _), ⟨⟨.none, he⟩, hit⟩, fun b hb => ?_, q⟩
  have e' : b = s1.heap.objs.size + 1 ∨ b = s1.heap.objs.size := by simpa using hb
  have le : s1.heap.objs.size ≤ b := by
    rcases e' with z | z
    · rw [z]; exact Nat.le_add_right _ _
    · rw [z]; exact Nat.le_refl _
  exact I1.fpOk le (I1.hok.fresh le)
def dEnumS (t : DTE) : DTI := fun ρ M R => t ρ M fun d M1 => ∃ x, d = .str x ∧ R (numD (signs x)) (fun _ => True) M1
theorem numD_get {xs : List DL.D} {i : Nat} {d : DL.D} (h : (numD xs)[i]? = some d) : ∃ x, xs[i]? = some x ∧ d = .tup [.int (i : Nat), x] := by
  unfold numD at h
  rw [List.getElem?_map, List.getElem?_zipIdx] at h
  cases e : xs[i]? with
  | none => rw [e] at h; cases h
  | some x => rw [e] at h; cases h; exact ⟨x, rfl, by simp⟩
theorem di_enumS (hm : X.mg "enumerate" = none) (he : DE X Y e t) (hg : Gl X "enumerate" := by rfl) (hs : starEach [e] X.env = (false, eval e X.env) :: starEach [] X.env := by rfl) :
    DI X Y (.Tuple elts kk tpos) (.Call (.Name "enumerate" p) [e] [] pos) (dEnumS t) := by
  refine PI.weak (pi_enumS hg hm (pa_cons he pa_nil hs) hs) ?_
  rintro σ H R0 ⟨F, M, ρ, R, rs, rl, q, k⟩
  refine ⟨F, M, ρ, _, rs, rl, q, fun v d F1 M1 H1 s1 rp1 ⟨x, ex, q1⟩ => ?_⟩
  subst ex
  cases rp1
  refine ⟨x, rfl, k _ _ _ F1 M1 H1 s1 ⟨fun F3 M3 H3 s3 r3 g => ?_⟩ q1⟩
  have hl : (numD (signs x)).length = x.cps.size := by unfold numD signs; simp
  refine ⟨hl, fun i dd hi => ?_⟩
  have hlt : i < x.cps.size := by rw [← hl]; exact (List.getElem?_eq_some_iff.mp hi).1
  obtain ⟨a, ha, rfl⟩ := numD_get hi
  refine ⟨hlt, fun vv H4 yy => ?_⟩
  obtain ⟨T, c, rfl, hT, eH, hx⟩ := yy
  unfold signs at ha
  rw [List.getElem?_map, Array.getElem?_toList, hx] at ha
  cases ha
  exact jw_pair s3 r3 (.int _) (.str _) hT eH

/-! ### range(i, j, -1) -/
def dnD (i : Int) (n : Nat) : List DL.D := (List.range n).map fun k => .int (i + (k : Nat) * (-1))
def dRangeDn (t u v : DTE) : DTI := fun ρ M R => t ρ M fun d M1 => u ρ M1 fun d' M2 => v ρ M2 fun d'' M3 => ∃ i j, d = .int i ∧ d' = .int j ∧ d'' = .int (-1) ∧ (-(2 ^ 62) ≤ i ∧ i < 2 ^ 62 ∧ -(2 ^ 62) ≤ j ∧ j < 2 ^ 62) ∧ R (dnD i (i - j).toNat) (fun _ => True) M3
theorem jw_down {K : PySem.W.Frag} {Y : KJ K} {F : Hp} {lo : Int} {n : Nat} : JW Y F (Itc lo (-1) n) (dnD lo n) (fun _ => True) := by
  refine ⟨fun F1 M1 H1 s r g => ⟨by show n ≤ (dnD lo n).length; simp [dnD], fun i d hi => ?_⟩⟩
  unfold dnD at hi
  rw [List.getElem?_map] at hi
  by_cases h : i < n
  · rw [List.getElem?_range h] at hi
    cases hi
    refine ⟨h, fun v H2 ⟨e2, hv⟩ => ?_⟩
    subst e2 hv
    exact ⟨F1, Stp.refl r, .int _⟩
  · rw [List.getElem?_eq_none (by simpa using h)] at hi
    cases hi
theorem di_rangeDn {tg : Expr} (hm : X.mg "range" = none) (he : DE X Y e t) (he2 : DE X Y e2 u) (he3 : DE X Y e3 v) (hg : Gl X "range" := by rfl) (hs : starEach [e, e2, e3] X.env = (false, eval e X.env) :: starEach [e2, e3] X.env := by rfl)
    (hs2 : starEach [e2, e3] X.env = (false, eval e2 X.env) :: starEach [e3] X.env := by rfl) (hs3 : starEach [e3] X.env = (false, eval e3 X.env) :: starEach [] X.env := by rfl) (hpl : (backTo pos (starEach [e2, e3] X.env)).any (·.1) = false := by rfl) :
    DI X Y tg (.Call (.Name "range" p) [e, e2, e3] [] pos) (dRangeDn t u v) := by
  refine PI.weak (pi_range3 hg hm (pa_cons he (pa_cons he2 (pa_cons he3 pa_nil hs3) hs2) hs) hs hpl) ?_
  rintro σ H R0 ⟨F, M, ρ, R, rs, rl, q, k⟩
  refine ⟨F, M, ρ, _, rs, rl, q, fun v1 d1 F1 M1 H1 s1 rp1 q1 => ?_⟩
  refine ⟨F1, M1, ρ, _, rs.mono s1.same, s1.rel, q1, fun v2 d2 F2 M2 H2 s2 rp2 q2 => ?_⟩
  refine ⟨F2, M2, ρ, _, rs.mono (s1.same.trans s2.same), s2.rel, q2, fun v3 d3 F3 M3 H3 s3 rp3 ⟨i, j, e1, e2, e3, ⟨b1, b2, b3, b4⟩, q3⟩ => ?_⟩
  subst e1 e2 e3
  cases rp1
  cases rp2
  cases rp3
  exact ⟨i, j, -1, _, rfl, RgC.neg b1 b2 b3 b4, k _ _ _ F3 M3 H3 ((s1.trans s2).trans s3) jw_down q3⟩

/-! ### min of three -/
def rMin3D : RDL := fun ds M Q => ∃ i j k, ds = [.int i, .int j, .int k] ∧ Q (.int (let m := if j < i then j else i; if k < m then k else m)) M
theorem rp3 {K : PySem.W.Frag} {F : Hp} {vs : List V} {a b c : DL.D} (r : RpAll K F vs [a, b, c]) : ∃ x y z, vs = [x, y, z] ∧ Rp K F x a ∧ Rp K F y b ∧ Rp K F z c := by
  cases r with
  | cons r1 r =>
    obtain ⟨y, z, rfl, r2, r3⟩ := rp2 r
    exact ⟨_, y, z, rfl, r1, r2, r3⟩
theorem cd_min3 (hc : X.calm = true) : CallD X Y (.builtin "min") rMin3D := by
  intro pins s σ H vs us Q0 I r ⟨F, M, ds, Q, rp, rl, ⟨i, j, k', e, q⟩, k⟩
  subst e
  obtain ⟨v1, v2, v3, rfl, r1, r2, r3⟩ := rp3 rp
  cases r1
  cases r2
  cases r3
  refine call_min3Nu hc pins s σ H _ us Q0 I r ⟨_, _, _, _, rfl, ?_, k _ _ F M H (Stp.refl rl) (.int _) q⟩
  have e1 : nuLt (V.int j) (V.int i) = some (decide (j < i)) := rfl
  by_cases h : j < i
  · have e2 : nuLt (V.int k') (V.int j) = some (decide (k' < j)) := rfl
    by_cases h2 : k' < j <;> simp [nuMin3, nuMin2, e1, e2, h, h2]
  · have e2 : nuLt (V.int k') (V.int i) = some (decide (k' < i)) := rfl
    by_cases h2 : k' < i <;> simp [nuMin3, nuMin2, e1, e2, h, h2]

/-! ### tuple(a text), tuple(a list) -/
theorem extend_signs {prog : Program} {w : World} {A : Around} {E : Value → Shared → Prop} {s : Shared} {x : Str} {tk : Tok} {Q : List Value → Shared → Prop} (calm : A.handled = none) (small : x.cps.size ≤ sizeLine)
    (k : ∀ (h' : Heap) (n : Nat) (acc : Array Value), (∀ b o, s.heap.get? b = some o → h'.get? b = some o) → ItemsOf (SignAt x) acc x.cps.size → Q acc.toList { s with heap := h', toks := n }) :
    wpAny (model prog w) A (collect (.str x tk)) Q E s := by
  have at0 : (s.heap.push { cls := .type "list", data := .seq ([] : List Value).toArray }).get? s.heap.objs.size = some { cls := .type "list", data := .seq #[] 0 } := Heap.get?_push_size _ rfl
  have old : ∀ b o, s.heap.get? b = some o → b ≠ s.heap.objs.size := fun b o q => Nat.ne_of_lt (Heap.lt_size q)
  unfold collect
  apply wpAny_bind
  apply wpAny_runValue
  refine codeAny_builtin F.entry_proto_collect ?_
  rw [Around.under_plainId F.plain_proto_collect _]
  show wpAny _ A.in1 (newList [] >>= fun l => again (.builtin "list.__iadd__" ⟨[l, .str x tk], []⟩)) _ _ s
  apply wpAny_bind
  refine wpAny_newObj_type ?_
  refine wpAny_pure ⟨plainId_quiet F.plain_list_iadd _, codeAny_builtin F.entry_list_iadd ?_⟩
  rw [Around.under_plainId F.plain_list_iadd _]
  show wpAny _ A.in1 (Builtin.List.listExtendWith (.ref s.heap.objs.size) (.str x tk) (.ref s.heap.objs.size)) _ _ _
  let R : Result → Shared → Prop := fun rr s' => rr = .ok (.ret (.ref s.heap.objs.size)) ∧ ∃ (h' : Heap) (n : Nat) (acc : Array Value) (c : Nat), s' = { s with heap := h', toks := n } ∧
      (∀ b o, s.heap.get? b = some o → h'.get? b = some o) ∧ h'.get? s.heap.objs.size = some { cls := .type "list", dict := none, data := .seq acc c, slots := #[] } ∧ ItemsOf (SignAt x) acc x.cps.size
  have ends : ∀ (rr : Result) (s' : Shared), R rr s' → ∃ acc : Array Value, rr = .ok (.ret (.ref s.heap.objs.size)) ∧ wpAny (model prog w) A (load s.heap.objs.size >>= fun o => pure o) (fun o s'' => ∃ c, o = { cls := .type "list", dict := none, data := .seq acc c, slots := #[] } ∧ Q acc.toList s'') E s' := by
    rintro rr s' ⟨rfl, h', n, acc, c, rfl, kp, a1, it⟩
    exact ⟨acc, rfl, wpAny_bind (wpAny_load a1 (wpAny_pure ⟨c, rfl, k h' n acc kp it⟩))⟩
  refine wpAny_mono (wpAny_extend_str (A := A) (R := R) (s := { s with heap := s.heap.push { cls := .type "list", data := .seq ([] : List Value).toArray } }) (hn := small) calm x tk _ _ 0 at0
    (fun h' n acc c kp a1 it => ⟨rfl, h', n, acc, c, rfl, fun b o q => kp b o (old b o q) (Heap.get?_push_of_some _ q), a1, it⟩)) ?_ ?_
  · intro fin s' h
    match fin, h with
    | .done f, ⟨e, h', n, acc, c, e2, kp, a1, it⟩ =>
      cases e
      subst e2
      show wpAny _ A (load s.heap.objs.size >>= _) _ _ _
      exact wpAny_bind (wpAny_load a1 (wpAny_pure (k h' n acc kp it)))
    | .again c', h =>
      refine ⟨h.1, codeAny_mono h.2 ?_⟩
      rintro rr s'' ⟨rfl, h', n, acc, c, rfl, kp, a1, it⟩
      show wpAny _ A (load s.heap.objs.size >>= _) _ _ _
      exact wpAny_bind (wpAny_load a1 (wpAny_pure (k h' n acc kp it)))
  · intro e s' h
    exact absurd h.1 (by simp)
end
end DL

set_option maxHeartbeats 4000000
/-! DL14: tuple(..), targets out of a list, a def in a slot, promises without exceptions. -/
namespace DL
open PySem PySem.Spec L2
open PyProof.Rows hiding St

section
variable {prog : Program} {w : World} {A : Around} {E : Value → Shared → Prop} {s : Shared}
theorem tuple_signs {x : Str} {tk : Tok} {Q : Value → Shared → Prop} (calm : A.handled = none) (small : x.cps.size ≤ sizeLine)
    (k : ∀ (h' : Heap) (n : Nat) (acc : Array Value), (∀ b o, s.heap.get? b = some o → h'.get? b = some o) → ItemsOf (SignAt x) acc x.cps.size → Q (.ref h'.objs.size) { s with heap := h'.push { cls := .type "tuple", data := .seq acc }, toks := n }) :
    wpAny (model prog w) A (call (.type "tuple") [.str x tk]) Q E s := by
  have code : codeAny (model prog w) A.in1 (.call (.builtin "tuple.__new__") ⟨[.type "tuple", .str x tk], []⟩) (wants (fun obj s1 => s1.TypeIs obj "tuple" ∧ Q obj s1) E) s := by
    apply codeAny_of_tree
    show wpAny _ A.in1.in1 (do checkBuiltinCall "tuple.__new__" ⟨[.type "tuple", .str x tk], []⟩; again (.builtin "tuple.__new__" ⟨[.type "tuple", .str x tk], []⟩)) _ _ s
    refine wpAny_bind (wpAny_of_eq (F.newCall_tuple_1 _) (wpAny_pure ⟨plainId_quiet F.plain_tuple_new _, codeAny_builtin F.entry_tuple_new ?_⟩))
    rw [Around.under_plainId F.plain_tuple_new _]
    have f1 := sub_tuple_self
    have f2 := init_tuple_lookup
    have f3 := madeHere_tuple
    have ty : s.TypeIs (.str x tk) "str" := rfl
    have cl : A.in1.in1.handled = none := calm
    wp_walk using wpAny_typeOf ty, extend_signs (A := A.in1.in1) (x := x) (tk := tk) cl small
    intro h' n acc kp it
    show wpAny _ _ (Builtin.Tuple.tupleExact acc.toList.toArray >>= fun v => ret v) _ _ _
    unfold Builtin.Tuple.tupleExact
    have e : acc.toList.toArray = acc := by simp
    rw [e]
    refine wpAny_bind (wpAny_newObj_type ?_ (by show acc.size ≤ sizeLine; rw [it.1]; exact small))
    exact wpAny_pure ⟨⟨_, Heap.get?_push_size _ rfl, rfl⟩, k h' n acc kp it⟩
  refine callType_codes (Q₁ := fun obj s1 => s1.TypeIs obj "tuple" ∧ Q obj s1) F.called_tuple (F.typeCall_tuple_1 _) F.entry_object_init code ?_
  intro obj s1 h1
  exact ⟨h1.1, F.args_object_init_2 obj _, object_init_meets F.called_tuple.init.lookup F.called_tuple.made (by decide) prog w A.in1 _ s1 ⟨h1.1, rfl, h1.2⟩⟩
end
section
variable {X : Cx} {Y : KJ X.K} {pos p : Pos}
def rTupD : RDL
  | [.str x], M, Q => x.cps.size ≤ sizeLine ∧ Q (.tup (signs x)) M
  | [.tup xs], M, Q => Q (.tup xs) M
  | [d], M, Q => ∃ xs, lstOf M d = some xs ∧ Q (.tup xs) M
  | _, _, _ => False
theorem cd_tup (hc : X.calm = true) : CallD X Y (.type "tuple") rTupD := by
  intro pins s σ H vs us Q0 I r ⟨F, M, ds, Q, rp, rl, q, k⟩
  unfold rTupD at q
  split at q
  · rename_i x
    obtain ⟨v, rfl, r1⟩ := rp1 rp
    obtain ⟨small, q⟩ := q
    cases r1
    obtain ⟨u, rfl, ⟨t, rfl⟩⟩ := vals1 r
    refine tuple_signs (I.ok.hd hc) small fun h' n acc kp it => ?_
    have vals : Vals (x.cps.toList.map fun c => V.str ⟨#[c]⟩) acc.toList := by
      refine vals_of_at (by simp [it.1]) fun i v w hv hw => ?_
      rw [Array.getElem?_toList] at hw
      obtain ⟨c, t, hc, rfl⟩ := it.2 i w hw
      rw [List.getElem?_map, Array.getElem?_toList, hc] at hv
      cases hv
      exact ⟨t, rfl⟩
    have I2 : Inv X pins σ H { s with heap := h', toks := n } := I.kept kp
    refine ⟨.ref _, upd H h'.objs.size (.tup (x.cps.toList.map fun c => V.str ⟨#[c]⟩)), I2.laid (t' := n) (fun b o q => Heap.get?_push_of_some _ q) (Nat.le_refl _) ⟨?_, acc.toList, vals, ?_⟩, rfl, newT_ok rl (signs_rp x) q k _ (I2.hok.fresh (Nat.le_refl _))⟩
    · rw [List.length_map, Array.length_toList]; exact small
    · exact ⟨_, Heap.get?_push_size _ rfl, rfl, _, by rw [Array.toArray_toList]⟩
  · obtain ⟨v, rfl, r1⟩ := rp1 rp
    cases r1 with
    | tup sq ra => exact call_tuple_of pins s σ H _ us Q0 I r ⟨_, _, rfl, .inr ⟨Same.tseq rl.sub sq, k _ _ F M H (Stp.refl rl) (.tup sq ra) q⟩⟩
  · obtain ⟨v, rfl, r1⟩ := rp1 rp
    obtain ⟨xs, e1, q⟩ := q
    obtain ⟨a, ws, rfl, h1, ra⟩ := lstOf_rp rl r1 e1
    exact call_tuple_of pins s σ H _ us Q0 I r ⟨a, ws, rfl, .inl ⟨h1, fun l hl => newT_ok rl ra q k l hl⟩⟩
  · exact q.elim
/-! ### targets out of a list -/
def dgLst (n : Nat) (t : DTGs) : DTG := fun d ρ M Q => ∃ ds, lstOf M d = some ds ∧ ds.length = n ∧ t ds ρ M Q
theorem dg_lst {es : List Expr} {k : Nat} {t : DTGs} {n : Nat} {ws : List Nat} (hc : X.calm = true) (h : DGs X Y es t ws)
    (hn : (assignEach es X.env).length = n := by rfl) (hst : (assignEach es X.env).findIdx? (·.1) = none := by rfl) : DG X Y (.Tuple es k pos) (dgLst n t) ws := by
  refine PG.weak (pg_lst hc h hn hst) ?_
  rintro v σ H Q0 ⟨F, M, ρ, d, Q, rp, rs, r, ⟨ds, e, hl, q⟩, k⟩
  obtain ⟨a, vs, rfl, h1, ra⟩ := lstOf_rp r rp e
  exact ⟨_, _, rfl, h1, by rw [ra.length]; exact hl, F, M, ρ, ds, Q, ra, rs, r, q, k⟩
/-! ### a def in a slot -/
/-- the def at f, by its promise over data -/
def CalA (P : Program) (w : World) (K : PySem.W.Frag) (T : TT8) (mg : Str → Option Value) (base : Heap) (k : Nat) (f : Addr) (sp : DSp) : Prop :=
  ∃ (fd : FuncData) (ps : List Str), GnOk P w K mg base (L2.CX P w) k f fd ps (lift K T sp) ∧ PySem.W.keepIn K (.ref f) = true ∧ Binds K fd ps []
theorem Cal.at {P : Program} {w : World} {K : PySem.W.Frag} {T : TT8} {mg : Str → Option Value} {base : Heap} {k : Nat} {x : Str} {sp : DSp} (C : Cal P w K T mg base k x [] sp) : ∃ f, CalA P w K T mg base k f sp ∧ Glob K mg x (.ref f) := by
  obtain ⟨f, fd, ps, dvs, us, G, m, kp, b, vd, rd⟩ := C.ex
  have := rd (fun _ => Option.none)
  cases this
  cases vd
  exact ⟨f, ⟨fd, ps, G, kp, b⟩, .ref f, .ref f, m, rfl, fun F => .ref f⟩
theorem CalA.mono {P : Program} {w : World} {K : PySem.W.Frag} {T : TT8} {mg : Str → Option Value} {base : Heap} {j k : Nat} {f : Addr} {sp : DSp} (C : CalA P w K T mg base j f sp) (h : j ≤ k) : CalA P w K T mg base k f sp := by
  obtain ⟨fd, ps, G, r⟩ := C
  exact ⟨fd, ps, G.up h, r⟩
def dCallV (i : Nat) (S : Addr → DSp → Prop) (t : DTA) (E : DXK) : DTE := fun ρ M Q => ∃ f sp, ρ[i]? = some (some (.ref f)) ∧ S f sp ∧ t ρ M fun ds M1 => sp ds M1 Q E
theorem de_callV {i k : Nat} {x : Str} {S : Addr → DSp → Prop} {e : Expr} {args : List Expr} {t : DTA} {E : DXK} (A : ∀ f sp, S f sp → CalA X.prog X.w X.K Y.T X.mg X.base k f sp) (hr : Room k X.A) (gu : X.A.guards = some []) (g : XG X Y E) (ha : DA X Y (e :: args) t)
    (hN : X.N[i]? = some x := by rfl) (hv : Vis X.env.scope x := by first | exact Or.inl rfl | exact Or.inr (Or.inl rfl) | exact Or.inr (Or.inr rfl)) (hd : (x == ("__debug__" : Str)) = false := by decide) (hcd : (x == ("__classdict__" : Str)) = false := by decide)
    (he : starEach (e :: args) X.env = (false, eval e X.env) :: starEach args X.env := by rfl) (hpl : (backTo pos (starEach args X.env)).any (·.1) = false := by rfl) :
    DE X Y (.Call (.Name x p) (e :: args) [] pos) (dCallV i S t E) := by
  constructor
  rintro pins s σ H Q0 I ⟨F, M, ρ, Q, rs, rl, ⟨f, sp, er, hS, q⟩, k⟩
  obtain ⟨fd, ps, G, kp, bi⟩ := A f sp hS
  obtain ⟨v, ev, rv⟩ := rs.2 i _ er
  cases rv
  apply wpAny_Call_Name_kw
  refine thn ((pe_var (pos := p) hN hv hd hcd).run pins s σ H (fun v G => v = .ref f ∧ G = H) I ⟨.ref f, ev, rfl, rfl⟩) ?_
  rintro u s1 ⟨w0, G0, I1, rel, e1, e2⟩
  subst e1
  rw [e2] at I1
  obtain rfl : u = Value.ref f := rel
  refine PySem.W.callWith_K (h₀ := X.base) I1.ok.mod.kin kp (thn (ha.run pos pins s1 σ H (fun vs H1 => lift X.K Y.T sp vs H1 Q0 (xw Y E)) I1 ⟨F, M, ρ, _, rs, rl, q, ?_⟩) ?_) he hpl
  · intro vs ds F1 M1 H1 s1 rp q1
    exact ⟨ds, F1, M1, Q, E, rp, s1.rel.r, g.tabs _ _ _ s1.rel.j, q1, fun v d F2 M2 H2 s2 => k v d F2 M2 H2 (s1.trans (Stp.of s1.rel s2)), fun x v cls d F2 M2 H2 s2 e z => ⟨F2, M2, x, v, (Stp.of s1.rel s2).rel, e, z⟩⟩
  · rintro us s2 ⟨vs, H2, I2, r, q2⟩
    refine ⟨I2.kIn, run_gn G hr gu bi .nil g.out I2 r ?_⟩
    rw [List.append_nil]
    exact q2
/-! ### promises without exceptions -/
abbrev DS1 := List DL.D → Mp → DK → Prop
abbrev quiet (sp : DS1) : DSp := fun ds M Q _ => sp ds M Q
abbrev Cal1 (P : Program) (w : World) (K : PySem.W.Frag) (T : TT8) (mg : Str → Option Value) (base : Heap) (k : Nat) (x : Str) (sp : DS1) : Prop := Cal P w K T mg base k x [] (quiet sp)
def dCall1 (sp : DS1) (t : DTA) : DTE := fun ρ M Q => t ρ M fun ds M1 => sp ds M1 Q
theorem de_call1 {k : Nat} {x : Str} {sp : DS1} {e : Expr} {args : List Expr} {t : DTA} (C : Cal1 X.prog X.w X.K Y.T X.mg X.base k x sp) (hr : Room k X.A) (gu : X.A.guards = some []) (g : XT Y) (ha : DA X Y (e :: args) t) (hg : Gl X x := by rfl)
    (hd : (x == ("__debug__" : Str)) = false := by decide) (he : starEach (e :: args) X.env = (false, eval e X.env) :: starEach args X.env := by rfl) (hpl : (backTo pos (starEach args X.env)).any (·.1) = false := by rfl) :
    DE X Y (.Call (.Name x p) (e :: args) [] pos) (dCall1 sp t) := by
  refine PE.weak (de_call C hr gu g ha hg hd he hpl) ?_
  rintro σ H Q0 ⟨F, M, ρ, Q, rs, rl, q, k⟩
  refine ⟨F, M, ρ, Q, rs, rl, ?_, k⟩
  show t ρ M fun ds M1 => sp (ds ++ []) M1 Q
  simp only [List.append_nil]; exact q
theorem de_call10 {k : Nat} {x : Str} {sp : DS1} (C : Cal1 X.prog X.w X.K Y.T X.mg X.base k x sp) (hr : Room k X.A) (gu : X.A.guards = some []) (g : XT Y) (hg : Gl X x := by rfl) (hd : (x == ("__debug__" : Str)) = false := by decide) : DE X Y (.Call (.Name x p) [] [] pos) (dCall1 sp dNil) := by
  refine PE.weak (de_call0 C hr gu g hg hd) ?_
  rintro σ H Q0 ⟨F, M, ρ, Q, rs, rl, q, k⟩
  exact ⟨F, M, ρ, Q, rs, rl, q, k⟩
def dCallE (sp : DSp) (t : DTA) (E : DXK) : DTE := fun ρ M Q => t ρ M fun ds M1 => sp ds M1 Q E
theorem de_callE {k : Nat} {x : Str} {sp : DSp} {e : Expr} {args : List Expr} {t : DTA} {E : DXK} (C : Cal X.prog X.w X.K Y.T X.mg X.base k x [] sp) (hr : Room k X.A) (gu : X.A.guards = some []) (g : XG X Y E) (ha : DA X Y (e :: args) t) (hg : Gl X x := by rfl)
    (hd : (x == ("__debug__" : Str)) = false := by decide) (he : starEach (e :: args) X.env = (false, eval e X.env) :: starEach args X.env := by rfl) (hpl : (backTo pos (starEach args X.env)).any (·.1) = false := by rfl) :
    DE X Y (.Call (.Name x p) (e :: args) [] pos) (dCallE sp t E) := by
  refine PE.weak (de_callX C hr gu g ha hg hd he hpl) ?_
  rintro σ H Q0 ⟨F, M, ρ, Q, rs, rl, q, k⟩
  refine ⟨F, M, ρ, Q, rs, rl, ?_, k⟩
  show t ρ M fun ds M1 => sp (ds ++ []) M1 Q E
  simp only [List.append_nil]; exact q
theorem Cal.on {P : Program} {w : World} {K : PySem.W.Frag} {T T' : TT8} {mg : Str → Option Value} {base : Heap} {k : Nat} {x : Str} {es : List DL.D} {sp : DSp} (C : Cal P w K T mg base k x es sp) (h : T' = T) : Cal P w K T' mg base k x es sp := h ▸ C
theorem CalA.on {P : Program} {w : World} {K : PySem.W.Frag} {T T' : TT8} {mg : Str → Option Value} {base : Heap} {k : Nat} {f : Addr} {sp : DSp} (C : CalA P w K T mg base k f sp) (h : T' = T) : CalA P w K T' mg base k f sp := h ▸ C
theorem dcal1 {P : Program} {w : World} {K : PySem.W.Frag} {T : TT8} {mg : Str → Option Value} {base : Heap} {x qual : Str} {st : Stmt} {N ps : List Str} {k : Nat} {sp : DS1} (h : Has K mg x qual st ps []) (S : FnScope N ps (defScope st)) {t : DTS}
    (body : ∀ f, DBody P w K T mg base k N qual st f fun _ => t) (read : ∀ ds M Q, sp ds M Q → ds.length = ps.length ∧ t { nx := fun _ M' => Q .non M', rt := Q } (dstart N ds) M) : Cal1 P w K T mg base (k + 1) x sp :=
  dcal h S body fun ds M Q E => read ds M Q
theorem Cal1.weak {P : Program} {w : World} {K : PySem.W.Frag} {T : TT8} {mg : Str → Option Value} {base : Heap} {k : Nat} {x : Str} {sp1 sp2 : DS1} (C : Cal1 P w K T mg base k x sp1)
    (h : ∀ ds M Q, sp2 ds M Q → sp1 ds M fun d M1 => ∃ M2, SubM M2 M1 ∧ Q d M2) : Cal1 P w K T mg base k x sp2 := Cal.weak C fun ds M Q E => h ds M Q
end
end DL

set_option maxHeartbeats 4000000
/-! DL15: defs that make lambdas. -/
namespace DL
open PySem PySem.Spec L2
open PyProof.Rows hiding St

/-- the name of the lambdas of the def x -/
def lamQ (x : Str) : Str := x ++ ".<locals>." ++ "<lambda>"
/-- a body whose code object is known -/
def DBodyC (P : Program) (w : World) (K : PySem.W.Frag) (T : TT8) (mg : Str → Option Value) (base : Heap) (k : Nat) (N : List Str) (qual : Str) (st : Stmt) (f : Addr) (cdv : Value) (t : DXK → DTS) : Prop :=
  ∀ (A : Around) (outer : List Env) (s : Shared) (H : Hp) (E : XK) (Y : KJ K) (E1 : DXK), Y.T = T → Room k (A.deeper (envOfC qual (defScope st) s.heap.objs.size f cdv)) → (A.deeper (envOfC qual (defScope st) s.heap.objs.size f cdv)).guards = some [] →
    XG (cxOf (L2.CX P w) P w K mg base N qual (defScope st) f cdv A outer s H E) Y E1 → DSs (cxOf (L2.CX P w) P w K mg base N qual (defScope st) f cdv A outer s H E) Y (defBody st) (t E1)
section
variable {P : Program} {w : World} {K : PySem.W.Frag} {T : TT8} {mg : Str → Option Value} {base : Heap} {x : Str} {st : Stmt} {N ps : List Str} {k : Nat} {sp : DSp} {f : Addr} {oc : Value} {od : Option Addr} {dV kV doc pm : Value} {an : Option Addr} {cd ct : Value} {osl : Array (Option Value)}
theorem dgnL (lk : K.lookup f = some ⟨oc, od, .func (PySem.W.fnOf x x (defArgs st) (defBody st) (defScope st) dV kV doc pm an cd ct), osl⟩) (hcd : PySem.W.codeIn K cd x = true) (S : FnScope N ps (defScope st)) {t : DXK → DTS}
    (body : DBodyC P w K T mg base k N x st f cd t) (read : ∀ ds M Q E, sp ds M Q E → ds.length = ps.length ∧ t E { nx := fun _ M' => Q .non M', rt := Q } (dstart N ds) M) :
    GnOk P w K mg base (L2.CX P w) (k + 1) f (PySem.W.fnOf x x (defArgs st) (defBody st) (defScope st) dV kV doc pm an cd ct) ps (lift K T sp) := by
  refine gfn_of lk hcd S ?_ ?_
  · rintro vs H Q E0 ⟨ds, F, M, Q, E, rp, _, _, q, _⟩
    rw [rp.length]; exact (read ds M Q E q).1
  · rintro A outer s H vs Q0 E0 room gu ⟨ds, F, M, Q, E, rp, r, tb, q, kk, ke⟩
    have g : XG (cxOf (L2.CX P w) P w K mg base N x (defScope st) f cd A outer s H E0) (fromE K T F M H) E :=
      ⟨fun F M H j => j.2, fun cls d _ H => E0 cls d H, takes_of rfl rfl rfl rfl, fun σ F' M' H' y v cls d R e z => ke y v cls d F' M' H' R.j.1 e z⟩
    have s0 : Rel (fromE K T F M H) F M H := ⟨r, StpR.refl r, tb⟩
    exact ⟨_, body A outer s H E0 (fromE K T F M H) E rfl room gu g, F, M, dstart N ds, _, relS_start rp, s0, (read ds M Q E q).2, ⟨fun _ _ F' M' H' s' _ q' => kk .non .non F' M' H' s'.s .non q', fun v d F' M' H' s' rp' q' => kk v d F' M' H' s'.s rp' q', fun _ _ _ _ _ _ _ z => z.elim, fun _ _ _ _ _ _ _ z => z.elim⟩⟩
/-- a def of the text whose code object is at c -/
def HasL (K : PySem.W.Frag) (mg : Str → Option Value) (x : Str) (st : Stmt) (ps : List Str) (c : Addr) : Prop :=
  ∃ (f : Addr) (oc : Value) (od : Option Addr) (kV doc pm : Value) (an : Option Addr) (ct : Value) (osl : Array (Option Value)),
    K.lookup f = some ⟨oc, od, .func (PySem.W.fnOf x x (defArgs st) (defBody st) (defScope st) .none kV doc pm an (.ref c) ct), osl⟩ ∧ PySem.W.codeIn K (.ref c) x = true ∧ PySem.W.keepIn K (.ref f) = true ∧ mg x = some (.ref f) ∧ Binds K (PySem.W.fnOf x x (defArgs st) (defBody st) (defScope st) .none kV doc pm an (.ref c) ct) ps []
theorem code_tab {c PP : Addr} (a : PySem.W.nsIn K mainGlobals x = some (some (.ref f))) (lk : K.lookup f = some ⟨oc, od, .func (PySem.W.fnOf x x (defArgs st) (defBody st) (defScope st) dV kV doc pm an cd ct), osl⟩) (t : PySem.W.tabIn K x = some (c, PP)) : cd = .ref c := by
  unfold PySem.W.tabIn at t
  rw [a] at t
  simp only [lk] at t
  cases cd with
  | ref c' =>
    simp only at t
    split at t
    · split at t
      · cases t; rfl
      · cases t
    · cases t
  | _ => simp at t
theorem hasL_of {h : Heap} (X : K.In h) (G : h.Ns mainGlobals mg) (D : Dfn K x st) {c PP : Addr} (t : PySem.W.tabIn K x = some (c, PP))
    (b : ∀ (kV doc pm : Value) (an : Option Addr) (cd ct : Value) (us : List Value), us.length = ps.length → bindArgs (PySem.W.fnOf x x (defArgs st) (defBody st) (defScope st) .none kV doc pm an cd ct) ⟨us, []⟩ = pure (ps.zip us)) : HasL K mg x st ps c := by
  obtain ⟨f, oc, od, kV, doc, pm, an, cd, ct, osl, a, l, hc, k⟩ := D
  obtain rfl := code_tab a l t
  exact ⟨f, oc, od, kV, doc, pm, an, ct, osl, l, hc, k, PySem.W.mg_of X G a, .all (b kV doc pm an _ ct)⟩
theorem dcalL {c : Addr} (h : HasL K mg x st ps c) (S : FnScope N ps (defScope st)) {t : DXK → DTS} (body : ∀ f, DBodyC P w K T mg base k N x st f (.ref c) t)
    (read : ∀ ds M Q E, sp ds M Q E → ds.length = ps.length ∧ t E { nx := fun _ M' => Q .non M', rt := Q } (dstart N ds) M) : Cal P w K T mg base (k + 1) x [] sp := by
  obtain ⟨f, oc, od, kV, doc, pm, an, ct, osl, lk, hcd, kp, m, b⟩ := h
  exact ⟨f, _, ps, [], [], dgnL lk hcd S (body f) read, m, kp, b, .nil, fun F => .nil⟩
end
end DL

set_option maxHeartbeats 4000000
/-! DL16: a tuple, some times. -/
namespace DL
open PySem PySem.Spec L2
open PyProof.Rows hiding St
def rRepTD : RD2 := fun x y M Q => ∃ xs n, x = .tup xs ∧ y = .int n ∧ xs ≠ [] ∧ xs.length ≤ 1000 ∧ 2 ≤ n ∧ n ≤ 1000 ∧ Q (.tup (List.replicate n.toNat xs).flatten) M
section
variable {X : Cx} {Y : KJ X.K}
theorem od_repT : OpD X Y (binaryOp .Mult) rRepTD := by
  intro pins s σ H x y v u Q0 I rx ry ⟨F, M, d, e, Q, r1, r2, rl, ⟨xs, n, e1, e2, h1, h2, h3, h4, q⟩, k⟩
  subst e1 e2
  cases r2
  cases r1 with
  | tup sq ra =>
    refine op_repT pins s σ H _ _ v u Q0 I rx ry ⟨_, n, _, rfl, rfl, Same.tseq rl.sub sq, ?_, h3, h4, by rw [ra.length]; exact h2, fun p hp => newT_ok rl (ra.rep _) q k p hp⟩
    intro z
    subst z
    cases ra
    exact h1 rfl
end
end DL

set_option maxHeartbeats 4000000
/-! KB1: basics of the laws' readings, of no law's own: bounded data, pots, repr. -/
namespace KB
open PySem PySem.Spec DL
open L2 (atI ixN)
open PyProof.Rows hiding St signs
def sg (c : Nat) : Str := ⟨#[c]⟩
theorem sg_inj {a b : Nat} (h : sg a = sg b) : a = b := by
  have := congrArg (fun s : Str => s.cps.toList) h
  simpa [sg] using this
theorem sgs_of : ∀ {ys : List Str}, (∀ y ∈ ys, ∃ c, y = sg c) → ∃ ms : List Nat, ys = ms.map sg
  | [], _ => ⟨[], rfl⟩
  | y :: ys, h => by
    obtain ⟨c, rfl⟩ := h y List.mem_cons_self
    obtain ⟨ms, rfl⟩ := sgs_of fun z hz => h z (List.mem_cons_of_mem _ hz)
    exact ⟨c :: ms, rfl⟩
theorem app_list (a b : Str) : (a ++ b).cps.toList = a.cps.toList ++ b.cps.toList := by
  show (a.cps ++ b.cps).toList = _
  simp
theorem join_list : ∀ ss : List Str, (Txt.join (Str.ofString "") ss).cps.toList = (ss.map fun s : Str => s.cps.toList).flatten := by
  intro ss
  unfold Txt.join
  rw [StrLaws.glued_eq_join]
  induction ss with
  | nil => rfl
  | cons a r ih =>
    cases r with
    | nil => simp [Str.join]
    | cons b r =>
      have e : (Str.ofString "").cps.toList = [] := by decide
      rw [Str.join, app_list, app_list, ih, e, List.map_cons, List.flatten_cons, List.append_nil]
      · simp
      · simp
theorem flat_sg : ∀ ms : List Nat, ((ms.map sg).map fun s : Str => s.cps.toList).flatten = ms
  | [] => rfl
  | m :: ms => by
    rw [List.map_cons, List.map_cons, List.flatten_cons, flat_sg ms]
    rfl
theorem gl_sg (ms : List Nat) : Txt.join (Str.ofString "") (ms.map sg) = ⟨ms.toArray⟩ := by
  have h := join_list (ms.map sg)
  rw [flat_sg] at h
  generalize Txt.join (Str.ofString "") (ms.map sg) = z at h
  obtain ⟨⟨l⟩⟩ := z
  have : l = ms := h
  rw [this]
def tupB (v : DL.D) (lo hi : Int) : Bool := match v with
  | .tup xs => decide (lo ≤ xs.length) && decide ((xs.length : Int) ≤ hi)
  | _ => false
def plain : DL.D → Bool
  | .ref _ => false
  | .str x => decide (x.cps.size ≤ 100000)
  | _ => true
theorem any_eqV (x : Str) : ∀ ws : List Str, (ws.any ((fun y => L2.eqV (vOf y) (vOf (D.str x))) ∘ D.str)) = decide (x ∈ ws)
  | [] => rfl
  | w :: ws => by
    rw [List.any_cons, any_eqV x ws]
    have : ((fun y => L2.eqV (vOf y) (vOf (D.str x))) ∘ D.str) w = decide (x = w) := by
      show (w == x) = _
      by_cases h : x = w
      · subst h; simp
      · simp [h, Ne.symm h]
    rw [this]
    by_cases h : x = w <;> simp [h]
theorem all_flat (ws : List Str) : (ws.map D.str).all flatD = true := by
  rw [List.all_map]; exact List.all_eq_true.mpr fun _ _ => rfl
/-- x in (a tuple of texts) -/
theorem in_texts {neg : Bool} {x : Str} {ws : List Str} {M : Mp} {Q : DK} (q : Q (.bl (if neg then !decide (x ∈ ws) else decide (x ∈ ws))) M) : DL.rInD neg (.str x) (.tup (ws.map D.str)) M Q := by
  refine ⟨_, rfl, rfl, all_flat ws, ?_⟩
  rw [List.any_map, any_eqV]
  exact q
theorem op_in_texts {neg : Bool} {x : Str} (ws : List Str) {e : DL.D} {t : DTE} {ρ : Rho} {M : Mp} {Q : DK} (he : e = .tup (ws.map D.str)) (ht : ∀ Q' : DK, Q' (.str x) M → t ρ M Q')
    (q : Q (.bl (if neg then !decide (x ∈ ws) else decide (x ∈ ws))) M) : dOp (DL.rInD neg) t (dC e) ρ M Q := by
  subst he
  exact ht _ (in_texts q)
abbrev SIG : Str := "\x0a ,-.0123456789:;=abcdefghijklmnopqrstuvwxyz"
def okSign (c : Nat) : Bool := decide (c ∈ SIG.cps.toList)
theorem small {n : Nat} (h : n ≤ 100000) : n ≤ sizeLine := by rw [sizeLine_eq]; omega
theorem ix0 {x : DL.D} {r : List DL.D} : atI (x :: r) 0 = some x := L2.atI_nat (j := 0) rfl
theorem ix1 {x y : DL.D} {r : List DL.D} : atI (x :: y :: r) 1 = some y := L2.atI_nat (j := 1) rfl
theorem cut1 {α : Type} (l : List α) : DL.cutD l (some 1) none = l.tail := by
  unfold DL.cutD
  rw [show (1 : Int) = ((1 : Nat) : Int) from rfl, HT.sIx_nat, HT.sIx_none]
  cases l with
  | nil => rfl
  | cons a r =>
    have e : min 1 (a :: r).length = 1 := by simp
    rw [e, List.drop_one, List.tail_cons, List.length_cons, Nat.add_sub_cancel]
    exact List.take_length
theorem cutS1 (x : Str) : (L2.cutS x (some 1) none).cps.toList = x.cps.toList.tail := by
  rw [← cut1 x.cps.toList]
  unfold L2.cutS DL.cutD
  rw [Array.length_toList]
  rfl
mutual
/-- plain data of a bounded size -/
def gd : DL.D → Bool
  | .non => true
  | .bl _ => true
  | .int i => decide (i.natAbs.log2 < 1900)
  | .str x => decide (x.cps.size ≤ 100000) && x.cps.toList.all fun c => decide (c < 128)
  | .tup xs => decide (xs.length ≤ 100000) && gdAll xs
  | .lst xs => decide (xs.length ≤ 100000) && gdAll xs
  | _ => false
def gdAll : List DL.D → Bool
  | [] => true
  | x :: xs => gd x && gdAll xs
end
theorem gdAll_iff : ∀ {xs : List DL.D}, gdAll xs = true ↔ ∀ x ∈ xs, gd x = true
  | [] => by simp [gdAll]
  | x :: xs => by simp [gdAll, gdAll_iff (xs := xs)]
theorem gd_tup {xs : List DL.D} : gd (.tup xs) = true ↔ xs.length ≤ 100000 ∧ ∀ x ∈ xs, gd x = true := by
  simp [gd, gdAll_iff]
theorem gd_lst {xs : List DL.D} : gd (.lst xs) = true ↔ xs.length ≤ 100000 ∧ ∀ x ∈ xs, gd x = true := by
  simp [gd, gdAll_iff]
theorem gd_str {x : Str} : gd (.str x) = true ↔ x.cps.size ≤ 100000 ∧ ∀ c ∈ x.cps.toList, c < 128 := by
  rw [gd, Bool.and_eq_true, decide_eq_true_eq, List.all_eq_true]
  simp only [decide_eq_true_eq]
theorem gd_plain {v : DL.D} (h : gd v = true) : plain v = true := by
  cases v <;> first | rfl | (simp [gd] at h; done) | skip
  simp only [plain]
  exact decide_eq_true (gd_str.mp h).1
mutual
def dep : DL.D → Nat
  | .tup xs => depAll xs + 1
  | .lst xs => depAll xs + 1
  | _ => 0
def depAll : List DL.D → Nat
  | [] => 0
  | x :: xs => max (dep x) (depAll xs)
end
theorem depAll_le {n : Nat} : ∀ {xs : List DL.D}, depAll xs ≤ n ↔ ∀ x ∈ xs, dep x ≤ n
  | [] => by simp [depAll]
  | x :: xs => by simp [depAll, Nat.max_le, depAll_le (xs := xs)]
mutual
theorem py_gd : ∀ (v : DL.D), gd v = true → ∃ p, v.py = some p ∧ p.showable = true ∧ p.canLay0 = true ∧ p.depth = dep v
  | .non, _ => ⟨.none, rfl, rfl, rfl, rfl⟩
  | .bl b, _ => ⟨.bool b, rfl, rfl, rfl, rfl⟩
  | .int i, h => by
    have h' : i.natAbs.log2 < 1900 := by simpa [gd] using h
    refine ⟨.int i, rfl, ?_, rfl, rfl⟩
    simp [PyData.showable]; omega
  | .str x, h => by
    refine ⟨.str x, rfl, rfl, ?_, rfl⟩
    have h' := (gd_str.mp h).2
    simp only [PyData.canLay0, PyData.strOk]
    rw [← Array.all_toList]
    exact List.all_eq_true.mpr fun c hc => by
      have := h' c hc
      simp; omega
  | .tup xs, h => by
    obtain ⟨ps, e, h1, h2, h3⟩ := pyAll_gd xs (gd_tup.mp h).2
    exact ⟨.tuple ps, by simp [D.py, e], by simpa [PyData.showable] using h1, by simpa [PyData.canLay0] using h2, by simp [PyData.depth, dep, h3]⟩
  | .lst xs, h => by
    obtain ⟨ps, e, h1, h2, h3⟩ := pyAll_gd xs (gd_lst.mp h).2
    exact ⟨.list ps, by simp [D.py, e], by simpa [PyData.showable] using h1, by simpa [PyData.canLay0] using h2, by simp [PyData.depth, dep, h3]⟩
  | .slst xs, h => by simp [gd] at h
  | .ref a, h => by simp [gd] at h
  | .dct a b, h => by simp [gd] at h
theorem pyAll_gd : ∀ (xs : List DL.D), (∀ x ∈ xs, gd x = true) → ∃ ps, pyAll xs = some ps ∧ PyData.showableAll ps = true ∧ PyData.canLayAll0 ps = true ∧ PyData.depthAll ps = depAll xs
  | [], _ => ⟨[], rfl, rfl, rfl, rfl⟩
  | x :: xs, h => by
    obtain ⟨p, e, h1, h2, h3⟩ := py_gd x (h x List.mem_cons_self)
    obtain ⟨ps, e', g1, g2, g3⟩ := pyAll_gd xs fun y hy => h y (List.mem_cons_of_mem _ hy)
    exact ⟨p :: ps, by simp [pyAll, e, e'], by simp [PyData.showableAll, h1, g1], by simp [PyData.canLayAll0, h2, g2], by simp [PyData.depthAll, depAll, h3, g3]⟩
end

theorem newTr {ds : List DL.D} {M : Mp} {Q : DK} (h : Q (.lst ds) M) : newL true ds M Q := h
theorem ne_nil {M : Mp} {a : Addr} {xs : List DL.D} {Q : DK} (h : M a = some (.lst xs)) (g : ∀ x ∈ xs, gd x = true) (d : depAll xs ≤ 63) (q : Q (.bl (!xs.isEmpty)) M) : rEqD2 true (.ref a) (.lst []) M Q := by
  obtain ⟨ps, e, h1, h2, h3⟩ := pyAll_gd xs g
  refine ⟨.list ps, .list [], ?_, rfl, ?_, by decide, ?_⟩
  · show (match mol (M a) with | some xs => _ | none => none) = _
    rw [h]
    show (match pyAll xs with | some ps => some (PyData.list ps) | none => none) = _
    rw [e]
  · unfold SeqAt.shaped
    simp only [PyData.canLay0, PyData.depth, h2, h3, Bool.true_and, decide_eq_true_eq]
    omega
  · have : PyData.eqv (.list ps) (.list []) = xs.isEmpty := by
      cases xs with
      | nil => simp [pyAll] at e; subst e; rfl
      | cons x xs =>
        simp only [pyAll] at e
        split at e
        · cases e; rfl
        · cases e
    rw [if_pos rfl, this]
    exact q
mutual
def wt : DL.D → Nat
  | .str x => x.cps.size
  | .tup xs => wtAll xs
  | .lst xs => wtAll xs
  | _ => 0
def wtAll : List DL.D → Nat
  | [] => 0
  | x :: xs => wt x + 1 + wtAll xs
end
mutual
theorem bulk_gd : ∀ (v : DL.D) (p : PyData), gd v = true → v.py = some p → p.bulk = wt v ∧ p.leavesShort 1921 = true
  | .non, _, _, h => by cases h; exact ⟨rfl, rfl⟩
  | .bl b, _, _, h => by cases h; exact ⟨rfl, rfl⟩
  | .int i, _, g, h => by
    cases h
    refine ⟨rfl, ?_⟩
    have g' : i.natAbs.log2 < 1900 := by simpa [gd] using g
    exact decide_eq_true (int_text_len_1921 (by omega))
  | .str x, _, g, h => by
    cases h
    refine ⟨rfl, ?_⟩
    exact List.all_eq_true.mpr fun c hc => decide_eq_true (by have := (gd_str.mp g).2 c hc; omega)
  | .tup xs, p, g, h => by
    simp only [D.py] at h
    split at h
    · rename_i ps e
      cases h
      obtain ⟨h1, h2⟩ := bulkAll_gd xs ps (gd_tup.mp g).2 e
      exact ⟨by simpa [PyData.bulk, wt] using h1, by simpa [PyData.leavesShort] using h2⟩
    · cases h
  | .lst xs, p, g, h => by
    simp only [D.py] at h
    split at h
    · rename_i ps e
      cases h
      obtain ⟨h1, h2⟩ := bulkAll_gd xs ps (gd_lst.mp g).2 e
      exact ⟨by simpa [PyData.bulk, wt] using h1, by simpa [PyData.leavesShort] using h2⟩
    · cases h
  | .slst xs, _, g, _ => by simp [gd] at g
  | .ref a, _, g, _ => by simp [gd] at g
  | .dct a b, _, g, _ => by simp [gd] at g
theorem bulkAll_gd : ∀ (xs : List DL.D) (ps : List PyData), (∀ x ∈ xs, gd x = true) → pyAll xs = some ps → PyData.bulkAll ps = wtAll xs ∧ PyData.leavesShortAll 1921 ps = true
  | [], _, _, h => by cases h; exact ⟨rfl, rfl⟩
  | x :: xs, ps, g, h => by
    simp only [pyAll] at h
    split at h
    · rename_i p ps' e e'
      cases h
      obtain ⟨h1, h2⟩ := bulk_gd x p (g x List.mem_cons_self) e
      obtain ⟨g1, g2⟩ := bulkAll_gd xs ps' (fun y hy => g y (List.mem_cons_of_mem _ hy)) e'
      exact ⟨by simp [PyData.bulkAll, wtAll, h1, g1], by simp [PyData.leavesShortAll, h2, g2]⟩
    · cases h
end
theorem pyM_gd {v : DL.D} {M : Mp} {p : PyData} (g : gd v = true) (h : v.py = some p) : pyM M v = some p := by
  cases v <;> first | exact h | (simp [gd] at g)
/-- repr of a value that is not too great -/
theorem repr_gd {v : DL.D} (g : gd v = true) (d : dep v ≤ 60) (wv : wt v ≤ 8000) : ∃ s : Str, ∀ (M : Mp) (Q : DK), Q (.str s) M → rReprD [v] M Q := by
  obtain ⟨p, e, h1, h2, h3⟩ := py_gd v g
  obtain ⟨b, l⟩ := bulk_gd v p g e
  refine ⟨p.shown, fun M Q q => ⟨v, p, rfl, pyM_gd g e, h1, by omega, ?_, q⟩⟩
  have := PyData.shown_le_bulk 1921 (by decide) p l
  rw [b] at this
  have m : (1921 + 2) * wt v ≤ (1921 + 2) * 8000 := Nat.mul_le_mul_left _ wv
  rw [sizeLine_eq]
  omega
theorem repr_op {v : DL.D} {s : Str} (hs : ∀ (M : Mp) (Q : DK), Q (.str s) M → rReprD [v] M Q) {t : DTE} {ρ : Rho} {M : Mp} {Q : DK} (ht : ∀ Q' : DK, Q' v M → t ρ M Q') (q : Q (.str s) M) : dCB rReprD (dCons t dNil) ρ M Q :=
  ht _ (hs M Q q)
theorem ix_ref {M : Mp} {a : Addr} {xs : List DL.D} {i : Int} {d : DL.D} {Q : DK} (h : M a = some (.lst xs)) (e : atI xs i = some d) (q : Q d M) : DL.rIxD (.ref a) (.int i) M Q :=
  ⟨xs, d, by show mol (M a) = _; rw [h]; rfl, e, q⟩
theorem mul_ok {fz : Bool} {i j : Int} {M : Mp} {Q : DK} (hi : i.natAbs < 2 ^ 64) (hj : j.natAbs < 2 ^ 64) (q : Q (.int (i * j)) M) : rMulD fz (.int i) (.int j) M Q := ⟨⟨64, 64, hi, hj, by decide⟩, q⟩
theorem at3_0 {x y z : DL.D} : atI [x, y, z] 0 = some x := L2.atI_nat (j := 0) rfl
theorem at3_1 {x y z : DL.D} : atI [x, y, z] 1 = some y := L2.atI_nat (j := 1) rfl
theorem at3_2 {x y z : DL.D} : atI [x, y, z] 2 = some z := L2.atI_nat (j := 2) rfl
/-- the pot at a: what it holds, drawn from at most c times -/
def Pot (M : Mp) (a : Addr) (c : Nat) : Prop := ∃ own mix cnt : Int, M a = some (.lst [.int own, .int mix, .int cnt]) ∧ 0 ≤ own ∧ 0 ≤ mix ∧ mix < 2305843009213693951 ∧ 0 ≤ cnt ∧ cnt ≤ c
/-- drawn from, nothing else touched -/
def Dr (M : Mp) (a : Addr) (M' : Mp) (c : Nat) : Prop := Pot M' a c ∧ ∀ b, b ≠ a → M' b = M b
theorem Dr.trans {M M1 M2 : Mp} {a : Addr} {c c' : Nat} (h : Dr M a M1 c) (h2 : Dr M1 a M2 c') : Dr M a M2 c' := ⟨h2.1, fun b hb => (h2.2 b hb).trans (h.2 b hb)⟩
theorem Dr.up {M M1 : Mp} {a : Addr} {c c' : Nat} (h : Dr M a M1 c) (hc : c ≤ c') : Dr M a M1 c' := by
  obtain ⟨⟨own, mix, cnt, e, h1, h2, h3, h4, h5⟩, f⟩ := h
  exact ⟨⟨own, mix, cnt, e, h1, h2, h3, h4, by omega⟩, f⟩
theorem Dr.refl {M : Mp} {a : Addr} {c : Nat} (h : Pot M a c) : Dr M a M c := ⟨h, fun _ _ => rfl⟩
theorem Pot.up {M : Mp} {a : Addr} {c c' : Nat} (h : Pot M a c) (hc : c ≤ c') : Pot M a c' := ((Dr.refl h).up hc).1
theorem set0 {x y z v : DL.D} {M : Mp} {a : Addr} (h : M a = some (.lst [x, y, z])) {Q : Mp → Prop} (q : Q (mu M a (.lst [v, y, z]))) : rSetD (.ref a) (.int 0) v M Q :=
  ⟨a, _, 0, 0, rfl, rfl, h, rfl, q⟩
theorem set2 {x y z v : DL.D} {M : Mp} {a : Addr} (h : M a = some (.lst [x, y, z])) {Q : Mp → Prop} (q : Q (mu M a (.lst [x, y, v]))) : rSetD (.ref a) (.int 2) v M Q :=
  ⟨a, _, 2, 2, rfl, rfl, h, rfl, q⟩
theorem primes {m : Int} (h0 : 0 ≤ m) (h5 : m < 5) : ∃ p : Int, atI [D.int 2147483647, .int 2147483629, .int 2147483587, .int 2147483579, .int 2147483563] m = some (.int p) ∧ 0 < p ∧ p < 2147483648 := by
  rcases (show m = 0 ∨ m = 1 ∨ m = 2 ∨ m = 3 ∨ m = 4 by omega) with rfl | rfl | rfl | rfl | rfl
  · exact ⟨_, rfl, by decide, by decide⟩
  · exact ⟨_, rfl, by decide, by decide⟩
  · exact ⟨_, rfl, by decide, by decide⟩
  · exact ⟨_, rfl, by decide, by decide⟩
  · exact ⟨_, rfl, by decide, by decide⟩
theorem sg_sum : ∀ ms : List Nat, ((ms.map sg).map (·.length)).sum = ms.length
  | [] => rfl
  | m :: ms => by
    rw [List.map_cons, List.map_cons, List.sum_cons, sg_sum ms, List.length_cons]
    show 1 + _ = _
    omega
theorem nat_sum (l : List Nat) : ((l.map fun n : Nat => (n : Int)).sum) = (l.sum : Nat) := by
  induction l with
  | nil => rfl
  | cons a l ih => simp [ih]
theorem at_in {α : Type} {xs : List α} {d : Int} (h0 : 0 ≤ d) (h1 : d < xs.length) : ∃ y ∈ xs, atI xs d = some y := by
  obtain ⟨n, rfl⟩ := Int.eq_ofNat_of_zero_le h0
  have hn : n < xs.length := by omega
  exact ⟨xs[n], List.getElem_mem hn, L2.atI_nat (List.getElem?_eq_getElem hn)⟩
theorem Pot.ne {M : Mp} {a b : Addr} {c : Nat} (p : Pot M a c) (h : M b = none) : b ≠ a := by
  obtain ⟨_, _, _, e, _⟩ := p
  intro q
  rw [q, e] at h
  cases h
theorem Pot.at {M M' : Mp} {a : Addr} {c : Nat} (p : Pot M a c) (h : M' a = M a) : Pot M' a c := by
  obtain ⟨own, mix, cnt, e, r⟩ := p
  exact ⟨own, mix, cnt, by rw [h]; exact e, r⟩
theorem sig_small : ∀ c ∈ SIG.cps.toList, c < 128 := by decide +kernel
theorem ok_small {c : Nat} (h : okSign c = true) : c < 128 := sig_small c (of_decide_eq_true h)
/-- a text of few signs -/
def Fs (n : Nat) (x : Str) : Prop := x.cps.size ≤ n ∧ ∀ c ∈ x.cps.toList, okSign c = true
theorem join_sg {ys : List Str} (h : ∀ y ∈ ys, ∃ c, okSign c = true ∧ y = sg c) : Fs ys.length (Txt.join (Str.ofString "") ys) ∧ (Txt.join (Str.ofString "") ys).cps.size = ys.length ∧ (ys.map (·.length)).sum = ys.length := by
  obtain ⟨ms, rfl⟩ := sgs_of (ys := ys) fun y hy => let ⟨c, _, e⟩ := h y hy; ⟨c, e⟩
  rw [gl_sg, sg_sum, List.length_map]
  refine ⟨⟨by simp, fun c hc => ?_⟩, by simp, rfl⟩
  obtain ⟨c', h1, e⟩ := h (sg c) (List.mem_map.mpr ⟨c, by simpa using hc, rfl⟩)
  rw [sg_inj e]; exact h1
def fairB (v : DL.D) : Bool := gd v && decide (dep v ≤ 5) && decide (wt v ≤ 1000)
theorem fairB_iff {v : DL.D} : fairB v = true ↔ gd v = true ∧ dep v ≤ 5 ∧ wt v ≤ 1000 := by
  unfold fairB
  simp only [Bool.and_eq_true, decide_eq_true_eq, and_assoc]
theorem wtAll_append (xs ys : List DL.D) : wtAll (xs ++ ys) = wtAll xs + wtAll ys := by
  induction xs with
  | nil => simp [wtAll]
  | cons x xs ih => simp only [List.cons_append, wtAll, ih]; omega
theorem wtAll_take (xs : List DL.D) (n : Nat) : wtAll (xs.take n) + wtAll (xs.drop n) = wtAll xs := by
  rw [← wtAll_append, List.take_append_drop]
theorem wtAll_len (xs : List DL.D) : xs.length ≤ wtAll xs := by
  induction xs with
  | nil => simp
  | cons x xs ih => simp only [List.length_cons, wtAll]; omega
theorem wtAll_rev (xs : List DL.D) : wtAll xs.reverse = wtAll xs := by
  induction xs with
  | nil => rfl
  | cons x xs ih => rw [List.reverse_cons, wtAll_append, ih]; simp only [wtAll]; omega
theorem wtAll_cut (xs : List DL.D) (lo hi : Option Int) : wtAll (DL.cutD xs lo hi) ≤ wtAll xs := by
  unfold DL.cutD
  have h1 := wtAll_take xs (HT.sIx xs.length 0 lo)
  have h2 := wtAll_take (xs.drop (HT.sIx xs.length 0 lo)) (HT.sIx xs.length xs.length hi - HT.sIx xs.length 0 lo)
  omega
theorem cut_mem {xs : List DL.D} {lo hi : Option Int} {y : DL.D} (h : y ∈ DL.cutD xs lo hi) : y ∈ xs := by
  unfold DL.cutD at h
  exact List.mem_of_mem_drop (List.mem_of_mem_take h)
theorem wt_mem {xs : List DL.D} {y : DL.D} (h : y ∈ xs) : wt y + 1 ≤ wtAll xs := by
  induction xs with
  | nil => cases h
  | cons x xs ih =>
    simp only [wtAll]
    rcases List.mem_cons.mp h with rfl | h
    · omega
    · have := ih h; omega
/-- a tuple of some items of a fair one -/
theorem some_items {xs ys : List DL.D} (g : gd (.tup xs) = true) (w : wtAll xs ≤ 3000) (m : ∀ y ∈ ys, y ∈ xs) (l : wtAll ys ≤ 2 * wtAll xs) : gd (.tup ys) = true ∧ dep (.tup ys) ≤ dep (.tup xs) + 1 ∧ wt (.tup ys) ≤ 2 * wt (.tup xs) + 10 := by
  refine ⟨gd_tup.mpr ⟨by have := wtAll_len ys; omega, fun y hy => (gd_tup.mp g).2 y (m y hy)⟩, ?_, ?_⟩
  · have : depAll ys ≤ depAll xs := depAll_le.mpr fun y hy => depAll_le.mp (Nat.le_refl _) y (m y hy)
    simp only [dep]
    omega
  · simp only [wt]
    omega
theorem cut_to {α : Type} (xs : List α) (k : Nat) : DL.cutD xs none (some (k : Int)) = xs.take k := by
  unfold DL.cutD
  rw [HT.sIx_none, HT.sIx_nat, List.drop_zero, Nat.sub_zero]
  by_cases h : k ≤ xs.length
  · rw [Nat.min_eq_left h]
  · rw [Nat.min_eq_right (by omega), List.take_length, List.take_of_length_le (by omega)]
theorem cut_from {α : Type} (xs : List α) (k : Nat) : DL.cutD xs (some (k : Int)) none = xs.drop k := by
  unfold DL.cutD
  rw [HT.sIx_none, HT.sIx_nat]
  by_cases h : k ≤ xs.length
  · rw [Nat.min_eq_left h]
    exact List.take_of_length_le (by rw [List.length_drop]; omega)
  · rw [Nat.min_eq_right (by omega), Nat.sub_self, List.take_zero, List.drop_of_length_le (by omega)]
theorem ne_unit {M : Mp} {xs : List DL.D} {Q : DK} (g : gd (.tup xs) = true) (d : dep (.tup xs) ≤ 60) (q : Q (.bl (!xs.isEmpty)) M) : rEqD2 true (.tup xs) (.tup []) M Q := by
  obtain ⟨ps, e, h1, h2, h3⟩ := pyAll_gd xs (gd_tup.mp g).2
  refine ⟨.tuple ps, .tuple [], ?_, rfl, ?_, by decide, ?_⟩
  · show (match pyAll xs with | some ps => some (PyData.tuple ps) | none => none) = _
    rw [e]
  · unfold SeqAt.shaped
    simp only [PyData.canLay0, PyData.depth, h2, h3, Bool.true_and, decide_eq_true_eq]
    simp only [dep] at d
    omega
  · have : PyData.eqv (.tuple ps) (.tuple []) = xs.isEmpty := by
      cases xs with
      | nil => simp [pyAll] at e; subst e; rfl
      | cons x xs =>
        simp only [pyAll] at e
        split at e
        · cases e; rfl
        · cases e
    rw [if_pos rfl, this]
    exact q
theorem up_small {x : Str} (h : ∀ c ∈ x.cps.toList, c < 128) : (Txt.upper x).cps.size = x.cps.size ∧ ∀ c ∈ (Txt.upper x).cps.toList, c < 128 := by
  have e : x = SX.S x.cps.toList := by cases x; rfl
  have h2 : x.cps.toList.all (· < 128) = true := List.all_eq_true.mpr fun c hc => decide_eq_true (h c hc)
  rw [e, SX.upper_S h2]
  refine ⟨by simp [SX.S], fun c hc => ?_⟩
  have hc' : c ∈ x.cps.toList.map PyProof.Rows.up1 := hc
  obtain ⟨d, hd, rfl⟩ := List.mem_map.mp hc'
  have := h d hd
  unfold PyProof.Rows.up1
  split <;> omega
theorem gd_app {x y : Str} (gx : gd (.str x) = true) (gy : gd (.str y) = true) (l : x.cps.size + y.cps.size ≤ 100000) : gd (.str (x ++ y)) = true ∧ (x ++ y).cps.size = x.cps.size + y.cps.size := by
  have e : (x ++ y).cps.size = x.cps.size + y.cps.size := by
    rw [← Array.length_toList, app_list, List.length_append, Array.length_toList, Array.length_toList]
  refine ⟨gd_str.mpr ⟨by omega, fun c hc => ?_⟩, e⟩
  rw [app_list] at hc
  exact (List.mem_append.mp hc).elim ((gd_str.mp gx).2 c) ((gd_str.mp gy).2 c)
theorem gd_cut {x : Str} (gx : gd (.str x) = true) (lo hi : Option Int) : gd (.str (L2.cutS x lo hi)) = true ∧ (L2.cutS x lo hi).cps.size ≤ x.cps.size := by
  have l := L2.cutS_length x lo hi
  have l2 : (L2.cutS x lo hi).cps.size ≤ x.cps.size := l
  refine ⟨gd_str.mpr ⟨Nat.le_trans l2 (gd_str.mp gx).1, fun c hc => (gd_str.mp gx).2 c ?_⟩, l2⟩
  unfold L2.cutS at hc
  exact List.mem_of_mem_drop (List.mem_of_mem_take hc)
theorem add_tups {fz : Bool} {xs ys : List DL.D} {M : Mp} {Q : DK} (l : xs.length + ys.length ≤ 100000) (q : Q (.tup (xs ++ ys)) M) : rAddD fz (.tup xs) (.tup ys) M Q := ⟨small l, q⟩
theorem add_strs {fz : Bool} {x y : Str} {M : Mp} {Q : DK} (l : x.cps.size + y.cps.size ≤ 100000) (q : Q (.str (x ++ y)) M) : rAddD fz (.str x) (.str y) M Q := ⟨small l, q⟩
/-- plain, of a depth, of a weight -/
structure Sm (d w : Nat) (v : DL.D) : Prop where
  g : gd v = true
  d : dep v ≤ d
  w : wt v ≤ w
theorem Sm.up {d w d' w' : Nat} {v : DL.D} (h : Sm d w v) (hd : d ≤ d') (hw : w ≤ w') : Sm d' w' v := ⟨h.g, Nat.le_trans h.d hd, Nat.le_trans h.w hw⟩
theorem sm_all {d : Nat} {xs : List DL.D} (h : ∀ x ∈ xs, ∃ w, Sm d w x) (l : xs.length ≤ 100000) : Sm (d + 1) (wtAll xs) (.tup xs) := by
  refine ⟨gd_tup.mpr ⟨l, fun x hx => let ⟨w, s⟩ := h x hx; s.g⟩, ?_, by simp only [wt]; exact Nat.le_refl _⟩
  have : depAll xs ≤ d := depAll_le.mpr fun x hx => let ⟨w, s⟩ := h x hx; s.d
  simp only [dep]
  omega
theorem sm_lst {d : Nat} {xs : List DL.D} (h : ∀ x ∈ xs, ∃ w, Sm d w x) (l : xs.length ≤ 100000) : Sm (d + 1) (wtAll xs) (.lst xs) := by
  obtain ⟨g, d, w⟩ := sm_all h l
  exact ⟨gd_lst.mpr (gd_tup.mp g), d, w⟩
theorem sm_str {x : Str} {w : Nat} (h : x.cps.size ≤ w) (hw : w ≤ 100000) (c : ∀ c ∈ x.cps.toList, c < 128) : Sm 0 w (.str x) :=
  ⟨gd_str.mpr ⟨by omega, c⟩, by simp [dep], by simp only [wt]; exact h⟩
theorem Fs.gd {n : Nat} {x : Str} (h : Fs n x) (hn : n ≤ 100000) : gd (.str x) = true := gd_str.mpr ⟨by have := h.1; omega, fun c hc => ok_small (h.2 c hc)⟩
/-- many Trues -/
theorem trues : ∀ {xs : List DL.D}, (∀ d ∈ xs, d = .bl true) → ∃ bs : List Bool, some xs = some (bs.map D.bl) ∧ bs.all id = true
  | [], _ => ⟨[], rfl, rfl⟩
  | x :: xs, h => by
    obtain ⟨bs, e1, e2⟩ := trues (xs := xs) fun d hd => h d (List.mem_cons_of_mem _ hd)
    refine ⟨true :: bs, ?_, by simpa using e2⟩
    rw [List.map_cons, ← Option.some.inj e1, h x List.mem_cons_self]
def PW : Int := ((10 : Int) ^ (60 : Int).toNat) ^ (5 : Int).toNat
theorem PW_pos : 0 < PW := by decide +kernel
theorem PW_lt : PW < 2 ^ 1000 := by decide +kernel
theorem bits60 : 0 ≤ (5 : Int) ∧ (Builtin.Int.intBits ((10 : Int) ^ (60 : Int).toNat) : Int) * 5 ≤ 2 ^ 27 := by decide +kernel
end KB

/-! K83p: plain law: the distance of two rows of signs, from the back as from the front; a third row; the edits that lead there. -/
namespace K83

def dist : List Nat → List Nat → Nat
  | [], b => b.length
  | _ :: a, [] => a.length + 1
  | x :: a, y :: b => min (min (dist a b + if x = y then 0 else 1) (dist a (y :: b) + 1)) (dist (x :: a) b + 1)
termination_by a b => a.length + b.length
theorem dist_nil (b : List Nat) : dist [] b = b.length := by rw [dist]
theorem dist_nil2 : ∀ a : List Nat, dist a [] = a.length
  | [] => by rw [dist_nil]
  | x :: a => by rw [dist]; rfl
theorem dist_cons (x y : Nat) (a b : List Nat) : dist (x :: a) (y :: b) = min (min (dist a b + if x = y then 0 else 1) (dist a (y :: b) + 1)) (dist (x :: a) b + 1) := by rw [dist]
/-- the two rows side by side -/
inductive Al : List Nat → List Nat → Nat → Prop
  | nil : Al [] [] 0
  | sub (x y : Nat) {a b n} : Al a b n → Al (x :: a) (y :: b) (n + if x = y then 0 else 1)
  | del (x : Nat) {a b n} : Al a b n → Al (x :: a) b (n + 1)
  | ins (y : Nat) {a b n} : Al a b n → Al a (y :: b) (n + 1)
theorem dist_del (x : Nat) (a : List Nat) : ∀ b, dist (x :: a) b ≤ dist a b + 1
  | [] => by rw [dist_nil2, dist_nil2]; simp
  | y :: b => by rw [dist_cons]; omega
theorem dist_ins (y : Nat) (b : List Nat) : ∀ a, dist a (y :: b) ≤ dist a b + 1
  | [] => by rw [dist_nil, dist_nil]; simp
  | x :: a => by rw [dist_cons]; omega
theorem Al.le {a b : List Nat} {n : Nat} (h : Al a b n) : dist a b ≤ n := by
  induction h with
  | nil => simp [dist_nil]
  | sub x y _ ih => rw [dist_cons]; omega
  | @del x a b n _ ih => have := dist_del x a b; omega
  | @ins y a b n _ ih => have := dist_ins y b a; omega
theorem al_len : ∀ b : List Nat, Al [] b b.length
  | [] => .nil
  | y :: b => .ins y (al_len b)
theorem al_len2 : ∀ a : List Nat, Al a [] a.length
  | [] => .nil
  | x :: a => .del x (al_len2 a)
theorem al_dist : ∀ (n : Nat) (a b : List Nat), a.length + b.length ≤ n → Al a b (dist a b)
  | _, [], b, _ => by rw [dist_nil]; exact al_len b
  | _, x :: a, [], _ => by rw [dist_nil2]; exact al_len2 _
  | 0, x :: a, y :: b, h => by simp at h
  | n + 1, x :: a, y :: b, h => by
    simp only [List.length_cons] at h
    have h1 := al_dist n a b (by omega)
    have h2 := al_dist n a (y :: b) (by simp; omega)
    have h3 := al_dist n (x :: a) b (by simp; omega)
    have e := dist_cons x y a b
    rcases (by omega : dist (x :: a) (y :: b) = dist a b + (if x = y then 0 else 1) ∨ dist (x :: a) (y :: b) = dist a (y :: b) + 1 ∨ dist (x :: a) (y :: b) = dist (x :: a) b + 1) with e | e | e
    · rw [e]; exact .sub x y h1
    · rw [e]; exact .del x h2
    · rw [e]; exact .ins y h3
theorem Al.dist (a b : List Nat) : Al a b (dist a b) := al_dist _ a b (Nat.le_refl _)
theorem Al.app {a b a' b' : List Nat} {n m : Nat} (h : Al a b n) (h' : Al a' b' m) : Al (a ++ a') (b ++ b') (n + m) := by
  induction h with
  | nil => simpa using h'
  | sub x y _ ih => rw [Nat.add_right_comm]; exact .sub x y ih
  | del x _ ih => rw [Nat.add_right_comm]; exact .del x ih
  | ins y _ ih => rw [Nat.add_right_comm]; exact .ins y ih
theorem Al.rev {a b : List Nat} {n : Nat} (h : Al a b n) : Al a.reverse b.reverse n := by
  induction h with
  | nil => exact .nil
  | sub x y _ ih =>
    rw [List.reverse_cons, List.reverse_cons]
    have := Al.sub x y Al.nil
    rw [Nat.zero_add] at this
    exact ih.app this
  | del x _ ih =>
    rw [List.reverse_cons]
    have := ih.app (Al.del x Al.nil)
    rwa [List.append_nil, Nat.zero_add] at this
  | ins y _ ih =>
    rw [List.reverse_cons]
    have := ih.app (Al.ins y Al.nil)
    rwa [List.append_nil, Nat.zero_add] at this
theorem dist_rev (a b : List Nat) : K83.dist a.reverse b.reverse = K83.dist a b := by
  have h1 := (Al.dist a b).rev.le
  have h2 := (Al.dist a.reverse b.reverse).rev.le
  rw [List.reverse_reverse, List.reverse_reverse] at h2
  omega
theorem Al.tri : ∀ (N : Nat) {a b c : List Nat} {n m : Nat}, a.length + b.length + c.length ≤ N → Al a b n → Al b c m → ∃ k, k ≤ n + m ∧ Al a c k := by
  intro N
  induction N with
  | zero =>
    intro a b c n m hl h1 h2
    cases h1 with
    | nil => exact ⟨_, by omega, h2⟩
    | sub x y h => simp at hl
    | del x h => simp at hl
    | ins y h => simp at hl
  | succ N ih =>
    intro a b c n m hl h1 h2
    cases h1 with
    | nil => exact ⟨_, by omega, h2⟩
    | del x h =>
      simp only [List.length_cons] at hl
      obtain ⟨k, h3, h4⟩ := ih (by omega) h h2
      exact ⟨k + 1, by omega, .del x h4⟩
    | ins y h =>
      simp only [List.length_cons] at hl
      cases h2 with
      | sub _ z h2 =>
        simp only [List.length_cons] at hl
        obtain ⟨k, h3, h4⟩ := ih (by omega) h h2
        exact ⟨k + 1, by omega, .ins z h4⟩
      | del _ h2 =>
        obtain ⟨k, h3, h4⟩ := ih (by omega) h h2
        exact ⟨k, by omega, h4⟩
      | ins z h2 =>
        simp only [List.length_cons] at hl
        obtain ⟨k, h3, h4⟩ := ih (by simp only [List.length_cons]; omega) (.ins y h) h2
        exact ⟨k + 1, by omega, .ins z h4⟩
    | @sub x y a b n h =>
      simp only [List.length_cons] at hl
      cases h2 with
      | @sub _ z _ c m h2 =>
        simp only [List.length_cons] at hl
        obtain ⟨k, h3, h4⟩ := ih (by omega) h h2
        refine ⟨k + if x = z then 0 else 1, ?_, .sub x z h4⟩
        have t : (if x = z then 0 else 1) ≤ (if x = y then 0 else 1) + (if y = z then 0 else 1) := by
          by_cases e1 : x = y
          · subst e1; simp
          · simp only [e1, if_false]; split <;> omega
        omega
      | del _ h2 =>
        obtain ⟨k, h3, h4⟩ := ih (by omega) h h2
        exact ⟨k + 1, by omega, .del x h4⟩
      | ins z h2 =>
        simp only [List.length_cons] at hl
        obtain ⟨k, h3, h4⟩ := ih (by simp only [List.length_cons]; omega) (.sub x y h) h2
        exact ⟨k + 1, by omega, .ins z h4⟩
theorem dist_tri (a b c : List Nat) : K83.dist a c ≤ K83.dist a b + K83.dist b c := by
  obtain ⟨k, h1, h2⟩ := Al.tri _ (Nat.le_refl _) (Al.dist a b) (Al.dist b c)
  exact Nat.le_trans h2.le h1
theorem dist_most : ∀ (a b : List Nat), K83.dist a b ≤ max a.length b.length := by
  intro a
  induction a with
  | nil => intro b; rw [dist_nil]; simp
  | cons x a ih =>
    intro b
    cases b with
    | nil => rw [dist_nil2]; simp
    | cons y b =>
      have := ih b
      rw [dist_cons]
      simp only [List.length_cons]
      split <;> omega
end K83

/-! K83q: plain law: the edits that lead there. -/
namespace K83
open PySem PySem.Spec DL KB
open PyProof.Rows hiding St signs

def inE (t c : Nat) : DL.D := .tup [.str "in", .int (t : Nat), .str (sg c)]
def outE (t : Nat) : DL.D := .tup [.str "out", .int (t : Nat)]
def turnE (t c : Nat) : DL.D := .tup [.str "turn", .int (t : Nat), .str (sg c)]
def ed : List Nat → List Nat → Nat → List DL.D
  | [], [], _ => []
  | [], y :: b, t => inE t y :: ed [] b (t + 1)
  | _ :: a, [], t => outE t :: ed a [] t
  | x :: a, y :: b, t => if x = y ∧ dist a b = dist (x :: a) (y :: b) then ed a b (t + 1) else if dist a b + 1 = dist (x :: a) (y :: b) then turnE t y :: ed a b (t + 1)
    else if dist a (y :: b) + 1 = dist (x :: a) (y :: b) then outE t :: ed a (y :: b) t else inE t y :: ed (x :: a) b (t + 1)
termination_by a b => a.length + b.length
theorem ed_nn (t : Nat) : ed [] [] t = [] := by rw [ed]
theorem ed_nc (y : Nat) (b : List Nat) (t : Nat) : ed [] (y :: b) t = inE t y :: ed [] b (t + 1) := by rw [ed]
theorem ed_cn (x : Nat) (a : List Nat) (t : Nat) : ed (x :: a) [] t = outE t :: ed a [] t := by rw [ed]
theorem ed_cc (x y : Nat) (a b : List Nat) (t : Nat) : ed (x :: a) (y :: b) t = if x = y ∧ dist a b = dist (x :: a) (y :: b) then ed a b (t + 1) else if dist a b + 1 = dist (x :: a) (y :: b) then turnE t y :: ed a b (t + 1)
    else if dist a (y :: b) + 1 = dist (x :: a) (y :: b) then outE t :: ed a (y :: b) t else inE t y :: ed (x :: a) b (t + 1) := by rw [ed]
/-- one edit -/
def stepL (x : List Nat) : DL.D → Option (List Nat)
  | .tup [.str _, .int p] => if 0 ≤ p ∧ p < x.length then some (x.take p.toNat ++ x.drop (p.toNat + 1)) else none
  | .tup [.str w, .int p, .str s] =>
    if 0 ≤ p ∧ p ≤ x.length ∧ ¬ (w ≠ "in" ∧ p = x.length) then
      if w = "in" then some (x.take p.toNat ++ s.cps.toList ++ x.drop p.toNat)
      else if (x.drop p.toNat).take 1 = s.cps.toList then none else some (x.take p.toNat ++ s.cps.toList ++ x.drop (p.toNat + 1))
    else none
  | _ => none
def doneL : List Nat → List DL.D → Option (List Nat)
  | x, [] => some x
  | x, e :: es => match stepL x e with
    | some y => doneL y es
    | none => none
/-- one sign of the signs -/
def oneS (s : Str) : Bool := decide (s.cps.size = 1) && s.cps.toList.all okSign
/-- an edit by its form -/
def formE : DL.D → Bool
  | .tup [.str w, .int _] => decide (w = "out")
  | .tup [.str w, .int _, .str s] => (decide (w = "in") || decide (w = "turn")) && oneS s
  | _ => false
theorem ed_len : ∀ (n : Nat) (a b : List Nat) (t : Nat), a.length + b.length ≤ n → (ed a b t).length = dist a b := by
  intro n
  induction n with
  | zero =>
    intro a b t h
    cases a with
    | nil =>
      cases b with
      | nil => rw [ed_nn, dist_nil]; rfl
      | cons y b => simp at h
    | cons x a => simp at h
  | succ n ih =>
    intro a b t h
    cases a with
    | nil =>
      cases b with
      | nil => rw [ed_nn, dist_nil]; rfl
      | cons y b =>
        simp only [List.length_cons] at h
        rw [ed_nc, List.length_cons, ih _ _ _ (by omega), dist_nil, dist_nil]; rfl
    | cons x a =>
      simp only [List.length_cons] at h
      cases b with
      | nil => rw [ed_cn, List.length_cons, ih _ _ _ (by omega), dist_nil2, dist_nil2]; rfl
      | cons y b =>
        simp only [List.length_cons] at h
        have e := dist_cons x y a b
        rw [ed_cc]
        split
        · rename_i c; rw [ih _ _ _ (by omega)]; exact c.2
        · rename_i c
          split
          · rename_i c2; rw [List.length_cons, ih _ _ _ (by omega)]; exact c2
          · rename_i c2
            split
            · rename_i c3; rw [List.length_cons, ih _ _ _ (by simp only [List.length_cons]; omega)]; exact c3
            · rename_i c3
              rw [List.length_cons, ih _ _ _ (by simp only [List.length_cons]; omega)]
              by_cases xy : x = y
              · have : dist a b ≠ dist (x :: a) (y :: b) := fun z => c ⟨xy, z⟩
                rw [if_pos xy] at e
                omega
              · rw [if_neg xy] at e
                omega
theorem step_in (p z : List Nat) (c : Nat) : stepL (p ++ z) (inE p.length c) = some (p ++ [c] ++ z) := by
  unfold inE stepL
  simp only []
  rw [if_pos ⟨by omega, by simp; omega, by simp⟩, if_pos trivial]
  simp [sg]
theorem step_out (p z : List Nat) (x : Nat) : stepL (p ++ x :: z) (outE p.length) = some (p ++ z) := by
  unfold outE stepL
  simp only []
  rw [if_pos ⟨by omega, by simp; omega⟩]
  simp
theorem step_turn (p z : List Nat) (x c : Nat) (h : x ≠ c) : stepL (p ++ x :: z) (turnE p.length c) = some (p ++ [c] ++ z) := by
  unfold turnE stepL
  simp only []
  have ne : ¬ (Str.ofString "turn" = Str.ofString "in") := by decide
  rw [if_pos ⟨by omega, by simp; omega, by simp; omega⟩, if_neg ne, if_neg (by simp [sg, h])]
  simp [sg]
theorem ed_done : ∀ (n : Nat) (a b pre : List Nat), a.length + b.length ≤ n → doneL (pre ++ a) (ed a b pre.length) = some (pre ++ b) := by
  intro n
  induction n with
  | zero =>
    intro a b pre h
    cases a with
    | nil =>
      cases b with
      | nil => rw [ed_nn]; rfl
      | cons y b => simp at h
    | cons x a => simp at h
  | succ n ih =>
    intro a b pre h
    have nxt : ∀ (y : Nat) (a' b' : List Nat), a'.length + b'.length ≤ n → doneL (pre ++ [y] ++ a') (ed a' b' (pre.length + 1)) = some (pre ++ y :: b') := by
      intro y a' b' hl
      have := ih a' b' (pre ++ [y]) hl
      simp only [List.length_append, List.length_cons, List.length_nil, Nat.zero_add] at this
      rw [this]; simp
    cases a with
    | nil =>
      cases b with
      | nil => rw [ed_nn]; rfl
      | cons y b =>
        simp only [List.length_cons] at h
        rw [ed_nc]
        unfold doneL
        rw [step_in]
        exact nxt y [] b (by simpa using by omega)
    | cons x a =>
      simp only [List.length_cons] at h
      cases b with
      | nil =>
        rw [ed_cn]
        unfold doneL
        rw [step_out]
        exact ih a [] pre (by simpa using by omega)
      | cons y b =>
        simp only [List.length_cons] at h
        have e := dist_cons x y a b
        rw [ed_cc]
        split
        · rename_i c
          obtain ⟨rfl, _⟩ := c
          have := nxt x a b (by omega)
          simpa using this
        · rename_i c
          split
          · rename_i c2
            have ne : x ≠ y := by
              intro z
              rw [if_pos z] at e
              omega
            unfold doneL
            rw [step_turn _ _ _ _ ne]
            exact nxt y a b (by omega)
          · split
            · unfold doneL
              rw [step_out]
              exact ih a (y :: b) pre (by simp only [List.length_cons]; omega)
            · unfold doneL
              rw [step_in]
              have := nxt y (x :: a) b (by simp only [List.length_cons]; omega)
              exact this
theorem one_sg {c : Nat} (h : okSign c = true) : oneS (sg c) = true := by
  unfold oneS sg
  simp [h]
theorem ed_form : ∀ (n : Nat) (a b : List Nat) (t : Nat), a.length + b.length ≤ n → (∀ c ∈ b, okSign c = true) → ∀ e ∈ ed a b t, (∃ p, e = outE p ∧ p ≤ t + b.length) ∨ (∃ p c, (e = inE p c ∨ e = turnE p c) ∧ okSign c = true ∧ p ≤ t + b.length) := by
  intro n
  induction n with
  | zero =>
    intro a b t h ok e he
    cases a with
    | nil =>
      cases b with
      | nil => rw [ed_nn] at he; cases he
      | cons y b => simp at h
    | cons x a => simp at h
  | succ n ih =>
    intro a b t h ok e he
    cases a with
    | nil =>
      cases b with
      | nil => rw [ed_nn] at he; cases he
      | cons y b =>
        simp only [List.length_cons] at h ⊢
        rw [ed_nc] at he
        rcases List.mem_cons.mp he with rfl | he
        · exact .inr ⟨t, y, .inl rfl, ok y List.mem_cons_self, by omega⟩
        · rcases ih [] b (t + 1) (by simpa using by omega) (fun c hc => ok c (List.mem_cons_of_mem _ hc)) e he with ⟨p, h1, h2⟩ | ⟨p, c, h1, h2, h3⟩
          · exact .inl ⟨p, h1, by omega⟩
          · exact .inr ⟨p, c, h1, h2, by omega⟩
    | cons x a =>
      simp only [List.length_cons] at h
      cases b with
      | nil =>
        rw [ed_cn] at he
        rcases List.mem_cons.mp he with rfl | he
        · exact .inl ⟨t, rfl, by simp⟩
        · exact ih a [] t (by simpa using by omega) ok e he
      | cons y b =>
        simp only [List.length_cons] at h ⊢
        have tl : ∀ c ∈ b, okSign c = true := fun c hc => ok c (List.mem_cons_of_mem _ hc)
        have up : ∀ {t' : Nat}, t' ≤ t + 1 → ((∃ p, e = outE p ∧ p ≤ t' + b.length) ∨ (∃ p c, (e = inE p c ∨ e = turnE p c) ∧ okSign c = true ∧ p ≤ t' + b.length)) → ((∃ p, e = outE p ∧ p ≤ t + (b.length + 1)) ∨ (∃ p c, (e = inE p c ∨ e = turnE p c) ∧ okSign c = true ∧ p ≤ t + (b.length + 1))) := by
          rintro t' ht (⟨p, h1, h2⟩ | ⟨p, c, h1, h2, h3⟩)
          · exact .inl ⟨p, h1, by omega⟩
          · exact .inr ⟨p, c, h1, h2, by omega⟩
        rw [ed_cc] at he
        split at he
        · exact up (Nat.le_refl _) (ih a b (t + 1) (by omega) tl e he)
        · split at he
          · rcases List.mem_cons.mp he with rfl | he
            · exact .inr ⟨t, y, .inr rfl, ok y List.mem_cons_self, by omega⟩
            · exact up (Nat.le_refl _) (ih a b (t + 1) (by omega) tl e he)
          · split at he
            · rcases List.mem_cons.mp he with rfl | he
              · exact .inl ⟨t, rfl, by omega⟩
              · have := ih a (y :: b) t (by simp only [List.length_cons]; omega) ok e he
                simpa using this
            · rcases List.mem_cons.mp he with rfl | he
              · exact .inr ⟨t, y, .inl rfl, ok y List.mem_cons_self, by omega⟩
              · exact up (Nat.le_refl _) (ih (x :: a) b (t + 1) (by simp only [List.length_cons]; omega) tl e he)
end K83

set_option maxHeartbeats 4000000
/-! K83a: the defs of the text, printed by gen2.py. -/
namespace K83
open PySem PySem.Spec L2 DL
open PyProof.Rows hiding St
/-- the exceptions that are heard -/
def kn (x : Str) : Prop := x = "BadText" ∨ x = "BadEdits"
def isC (y : Str) (x : Str) : Bool := x == y
structure Exs (P : Program) (w : World) (K : PySem.W.Frag) (mg : Str → Option Value) (base : Heap) : Prop where
  x_BadText : ExC P w K mg base "BadText"
  x_BadEdits : ExC P w K mg base "BadEdits"
structure Kns (K : PySem.W.Frag) (mg : Str → Option Value) (CS C_BadText C_BadEdits : Addr) : Prop where
  mT : mg "TextError" = some (.ref CS)
  m_BadText : mg "BadText" = some (.ref C_BadText)
  m_BadEdits : mg "BadEdits" = some (.ref C_BadEdits)
  known : Known K kn
  sub : ∀ n C, kn n → PySem.W.nsIn K mainGlobals n = some (some (.ref C)) → PySem.W.exmOne K (.ref C) (.ref CS) = some true
  sub_BadText : SubsOf K kn C_BadText (isC "BadText")
  sub_BadEdits : SubsOf K kn C_BadEdits (isC "BadEdits")
def topS (i : Nat) : Stmt := PySem.Challenge.pw_eithermended_k83_whole_edits_between_tex.main.body.getD i (.Pass ⟨0, 0, 0, 0⟩)
def v_IN : DL.D := .str "in"
def v_MOST_EDITS : DL.D := .int 200
def v_MOST_TEXT : DL.D := .int 100
def v_OUT : DL.D := .str "out"
def v_PAIR : DL.D := .int 2
def v_SIGNS : DL.D := .str "\x0a ,-.0123456789:;=abcdefghijklmnopqrstuvwxyz"
def v_TRIPLE : DL.D := .int 3
def v_TURN : DL.D := .str "turn"
abbrev st__law_heard : Stmt := topS 29
abbrev N__law_heard : List Str := ["call", "caught", "back", "error"]
theorem sc__law_heard : FnScope N__law_heard ["call"] (defScope st__law_heard) := ⟨rfl, rfl, rfl, by decide +kernel, rfl, by decide +kernel, by decide +kernel⟩
theorem give_heard {X : Cx} {CS : Addr} (hm : X.mg "TextError" = some (.ref CS)) (g : Addr) (cdv : Value) (q : Str) : GivesS X N__law_heard "_law_heard" (defScope st__law_heard) g cdv (defBody st__law_heard) "call" q (THeard X.K CS) :=
  heard_gives rfl hm (by decide) rfl rfl rfl (by decide) (fun env h => by cases env; subst h; rfl) (fun env h => by cases env; subst h; rfl) (fun env h => by cases env; subst h; rfl) (fun env h => by cases env; subst h; rfl) (by decide) (by decide) (by decide) (by decide) (by decide) (by decide)
abbrev st_is_tuple : Stmt := topS 2
abbrev N_is_tuple : List Str := ["value", "least", "most"]
theorem sc_is_tuple : FnScope N_is_tuple ["value", "least", "most"] (defScope st_is_tuple) := ⟨rfl, rfl, rfl, by decide +kernel, rfl, by decide +kernel, by decide +kernel⟩
def r_is_tuple : DTS := (dRet (dAndV (dIsi "tuple" (dSlot 0)) (dChain (rInt (fun _ _ => True) fun i j => .bl (decide (i ≤ j))) (rInt (fun _ _ => True) fun i j => .bl (decide (i ≤ j))) (dSlot 1) (dCB rLen (dCons (dSlot 0) dNil)) (dSlot 2))))
abbrev st_is_whole : Stmt := topS 3
abbrev N_is_whole : List Str := ["value"]
theorem sc_is_whole : FnScope N_is_whole ["value"] (defScope st_is_whole) := ⟨rfl, rfl, rfl, by decide +kernel, rfl, by decide +kernel, by decide +kernel⟩
def r_is_whole : DTS := (dRet (dAndV (dIsi "int" (dSlot 0)) (dNotV (dIsi "bool" (dSlot 0)))))
abbrev st_is_short : Stmt := topS 16
abbrev N_is_short : List Str := ["value", "sign"]
theorem sc_is_short : FnScope N_is_short ["value"] (defScope st_is_short) := ⟨rfl, rfl, rfl, by decide +kernel, rfl, by decide +kernel, by decide +kernel⟩
def r_is_short : DTS := (dRet (dAndV (dIsi "str" (dSlot 0)) (dAndV (dOp (rInt (fun _ _ => True) fun i j => .bl (decide (i ≤ j))) (dCB rLen (dCons (dSlot 0) dNil)) (dC v_MOST_TEXT)) (dCB rAllD (dCons (dLc true (dIt (dSlot 0)) (dgName 1) dYes (dOp (rInD false) (dSlot 1) (dC v_SIGNS)) [1]) dNil)))))
abbrev st_check_text : Stmt := topS 17
abbrev N_check_text : List Str := ["value"]
theorem sc_check_text : FnScope N_check_text ["value"] (defScope st_check_text) := ⟨rfl, rfl, rfl, by decide +kernel, rfl, by decide +kernel, by decide +kernel⟩
def r_check_text (E1 : DXK) (sp_is_short : DS1) : DTS := (dIfS (dNotT (dB (dCall1 sp_is_short (dCons (dSlot 0) dNil)))) (dRaise "BadText" (dSlot 0) E1) dNext)
abbrev st_distances : Stmt := topS 18
abbrev N_distances : List Str := ["one", "other", "found", "sign", "at", "below", "row", "turn"]
theorem sc_distances : FnScope N_distances ["one", "other"] (defScope st_distances) := ⟨rfl, rfl, rfl, by decide +kernel, rfl, by decide +kernel, by decide +kernel⟩
def r_distances : DTS := (dSeq (dAsg (dLst false (dCons (dLc true (dRange1 (dOp (rAddD true) (dCB rLen (dCons (dSlot 1) dNil)) (dC (.int 1)))) (dgName 4) dYes (dOp (rInt (fun _ _ => True) fun i j => .int (i - j)) (dCB rLen (dCons (dSlot 1) dNil)) (dSlot 4)) [4]) dNil)) (dgName 2)) (dSeq (dFor (dIt (dRevS true (dSlot 0))) (dgName 3) (dSeq (dPar 5 6 (dCons (dOp rIxD (dSlot 2) (dNeg (dC (.int 1)))) (dCons (dLst false (dCons (dOp (rAddD true) (dOp rIxD (dOp rIxD (dSlot 2) (dNeg (dC (.int 1)))) (dCB rLen (dCons (dSlot 1) dNil))) (dC (.int 1))) dNil)) dNil))) (dSeq (dFor (dRangeDn (dOp (rInt (fun _ _ => True) fun i j => .int (i - j)) (dCB rLen (dCons (dSlot 1) dNil)) (dC (.int 1))) (dNeg (dC (.int 1))) (dNeg (dC (.int 1)))) (dgName 4) (dSeq (dAsg (dOp (rAddD true) (dOp rIxD (dSlot 5) (dOp (rAddD true) (dSlot 4) (dC (.int 1)))) (dCB rIntD (dCons (dOp (rEqD2 true) (dSlot 3) (dOp rIxD (dSlot 1) (dSlot 4))) dNil))) (dgName 7)) (dDrop (dAppend (dSlot 6) (dCB rMin3D (dCons (dSlot 7) (dCons (dOp (rAddD true) (dOp rIxD (dSlot 5) (dSlot 4)) (dC (.int 1))) (dCons (dOp (rAddD true) (dOp rIxD (dSlot 6) (dNeg (dC (.int 1)))) (dC (.int 1))) dNil)))))))) (dDrop (dAppend (dSlot 2) (dRevS true (dSlot 6))))))) (dRet (dRevS true (dSlot 2)))))
abbrev st_distance : Stmt := topS 19
abbrev N_distance : List Str := ["one", "other"]
theorem sc_distance : FnScope N_distance ["one", "other"] (defScope st_distance) := ⟨rfl, rfl, rfl, by decide +kernel, rfl, by decide +kernel, by decide +kernel⟩
def r_distance (E1 : DXK) (sp_check_text : DSp) (sp_distances : DS1) : DTS := (dSeq (dDrop (dCallE sp_check_text (dCons (dSlot 0) dNil) E1)) (dSeq (dDrop (dCallE sp_check_text (dCons (dSlot 1) dNil) E1)) (dRet (dOp rIxD (dOp rIxD (dCall1 sp_distances (dCons (dSlot 0) (dCons (dSlot 1) dNil))) (dC (.int 0))) (dC (.int 0))))))
abbrev st_edits : Stmt := topS 20
abbrev N_edits : List Str := ["one", "other", "rows", "found", "here", "there", "cost", "both"]
theorem sc_edits : FnScope N_edits ["one", "other"] (defScope st_edits) := ⟨rfl, rfl, rfl, by decide +kernel, rfl, by decide +kernel, by decide +kernel⟩
def r_edits (E1 : DXK) (sp_check_text : DSp) (sp_distances : DS1) : DTS := (dSeq (dDrop (dCallE sp_check_text (dCons (dSlot 0) dNil) E1)) (dSeq (dDrop (dCallE sp_check_text (dCons (dSlot 1) dNil) E1)) (dSeq (dAsg (dTup (dCons (dCall1 sp_distances (dCons (dSlot 0) (dCons (dSlot 1) dNil))) (dCons (dLst false dNil) (dCons (dC (.int 0)) (dCons (dC (.int 0)) dNil))))) (dgTup 4 (dgCons (dgName 2) (dgCons (dgName 3) (dgCons (dgName 4) (dgCons (dgName 5) dgNil)))))) (dSeq (dWhile (dOrT (dB (dOp rLtD (dSlot 4) (dCB rLen (dCons (dSlot 0) dNil)))) (dB (dOp rLtD (dSlot 5) (dCB rLen (dCons (dSlot 1) dNil))))) (dSeq (dAsg (dOp rIxD (dOp rIxD (dSlot 2) (dSlot 4)) (dSlot 5)) (dgName 6)) (dSeq (dAsg (dAndV (dOp rLtD (dSlot 4) (dCB rLen (dCons (dSlot 0) dNil))) (dOp rLtD (dSlot 5) (dCB rLen (dCons (dSlot 1) dNil)))) (dgName 7)) (dIfS (dAndT (dB (dSlot 7)) (dAndT (dB (dOp (rEqD2 false) (dOp rIxD (dSlot 0) (dSlot 4)) (dOp rIxD (dSlot 1) (dSlot 5)))) (dB (dOp (rEqD2 false) (dOp rIxD (dOp rIxD (dSlot 2) (dOp (rAddD true) (dSlot 4) (dC (.int 1)))) (dOp (rAddD true) (dSlot 5) (dC (.int 1)))) (dSlot 6))))) (dPar 4 5 (dCons (dOp (rAddD true) (dSlot 4) (dC (.int 1))) (dCons (dOp (rAddD true) (dSlot 5) (dC (.int 1))) dNil))) (dIfS (dAndT (dB (dSlot 7)) (dB (dOp (rEqD2 false) (dOp rIxD (dOp rIxD (dSlot 2) (dOp (rAddD true) (dSlot 4) (dC (.int 1)))) (dOp (rAddD true) (dSlot 5) (dC (.int 1)))) (dOp (rInt (fun _ _ => True) fun i j => .int (i - j)) (dSlot 6) (dC (.int 1)))))) (dSeq (dDrop (dAppend (dSlot 3) (dTup (dCons (dC v_TURN) (dCons (dSlot 5) (dCons (dOp rIxD (dSlot 1) (dSlot 5)) dNil)))))) (dPar 4 5 (dCons (dOp (rAddD true) (dSlot 4) (dC (.int 1))) (dCons (dOp (rAddD true) (dSlot 5) (dC (.int 1))) dNil)))) (dIfS (dAndT (dB (dOp rLtD (dSlot 4) (dCB rLen (dCons (dSlot 0) dNil)))) (dB (dOp (rEqD2 false) (dOp rIxD (dOp rIxD (dSlot 2) (dOp (rAddD true) (dSlot 4) (dC (.int 1)))) (dSlot 5)) (dOp (rInt (fun _ _ => True) fun i j => .int (i - j)) (dSlot 6) (dC (.int 1)))))) (dSeq (dDrop (dAppend (dSlot 3) (dTup (dCons (dC v_OUT) (dCons (dSlot 5) dNil))))) (dAsg (dOp (rAddD true) (dSlot 4) (dC (.int 1))) (dgName 4))) (dSeq (dDrop (dAppend (dSlot 3) (dTup (dCons (dC v_IN) (dCons (dSlot 5) (dCons (dOp rIxD (dSlot 1) (dSlot 5)) dNil)))))) (dAsg (dOp (rAddD true) (dSlot 5) (dC (.int 1))) (dgName 5))))))))) (dRet (dCB rTupD (dCons (dSlot 3) dNil)))))))
abbrev st_is_edit : Stmt := topS 21
abbrev N_is_edit : List Str := ["value"]
theorem sc_is_edit : FnScope N_is_edit ["value"] (defScope st_is_edit) := ⟨rfl, rfl, rfl, by decide +kernel, rfl, by decide +kernel, by decide +kernel⟩
def r_is_edit (sp_is_tuple : DS1) (sp_is_whole : DS1) : DTS := (dSeq (dIfS (dOrT (dNotT (dB (dCall1 sp_is_tuple (dCons (dSlot 0) (dCons (dC v_PAIR) (dCons (dC v_TRIPLE) dNil)))))) (dOrT (dNotT (dB (dIsi "str" (dOp rIxD (dSlot 0) (dC (.int 0)))))) (dNotT (dB (dCall1 sp_is_whole (dCons (dOp rIxD (dSlot 0) (dC (.int 1))) dNil)))))) (dRet (dC (.bl false))) dNext) (dSeq (dIfS (dB (dOp (rEqD2 false) (dCB rLen (dCons (dSlot 0) dNil)) (dC v_PAIR))) (dRet (dOp (rEqD2 false) (dOp rIxD (dSlot 0) (dC (.int 0))) (dC v_OUT))) dNext) (dRet (dAndV (dOp (rInD false) (dOp rIxD (dSlot 0) (dC (.int 0))) (dTup (dCons (dC v_IN) (dCons (dC v_TURN) dNil)))) (dAndV (dIsi "str" (dOp rIxD (dSlot 0) (dC v_PAIR))) (dOp (rInD false) (dOp rIxD (dSlot 0) (dC v_PAIR)) (dCB rTupD (dCons (dC v_SIGNS) dNil))))))))
abbrev st_edited : Stmt := topS 22
abbrev N_edited : List Str := ["text", "edit", "word", "place"]
theorem sc_edited : FnScope N_edited ["text", "edit"] (defScope st_edited) := ⟨rfl, rfl, rfl, by decide +kernel, rfl, by decide +kernel, by decide +kernel⟩
def r_edited : DTS := (dSeq (dPar 2 3 (dCons (dOp rIxD (dSlot 1) (dC (.int 0))) (dCons (dOp rIxD (dSlot 1) (dC (.int 1))) dNil))) (dSeq (dIfS (dOrT (dNotT (dB (dChain (rInt (fun _ _ => True) fun i j => .bl (decide (i ≤ j))) (rInt (fun _ _ => True) fun i j => .bl (decide (i ≤ j))) (dC (.int 0)) (dSlot 3) (dCB rLen (dCons (dSlot 0) dNil))))) (dAndT (dB (dOp (rEqD2 true) (dSlot 2) (dC v_IN))) (dB (dOp (rEqD2 false) (dSlot 3) (dCB rLen (dCons (dSlot 0) dNil)))))) (dRet (dC .non)) dNext) (dSeq (dIfS (dB (dOp (rEqD2 false) (dSlot 2) (dC v_IN))) (dRet (dOp (rAddD true) (dOp (rAddD true) (dSl true (dSlot 0) dNoPart (dPart (dSlot 3))) (dOp rIxD (dSlot 1) (dC v_PAIR))) (dSl true (dSlot 0) (dPart (dSlot 3)) dNoPart))) dNext) (dSeq (dIfS (dB (dOp (rEqD2 false) (dSlot 2) (dC v_OUT))) (dRet (dOp (rAddD true) (dSl true (dSlot 0) dNoPart (dPart (dSlot 3))) (dSl true (dSlot 0) (dPart (dOp (rAddD true) (dSlot 3) (dC (.int 1)))) dNoPart))) dNext) (dRet (dIf (dB (dOp (rEqD2 true) (dOp rIxD (dSlot 0) (dSlot 3)) (dOp rIxD (dSlot 1) (dC v_PAIR)))) (dOp (rAddD true) (dOp (rAddD true) (dSl true (dSlot 0) dNoPart (dPart (dSlot 3))) (dOp rIxD (dSlot 1) (dC v_PAIR))) (dSl true (dSlot 0) (dPart (dOp (rAddD true) (dSlot 3) (dC (.int 1)))) dNoPart)) (dC .non)))))))
abbrev st_edited_by : Stmt := topS 23
abbrev N_edited_by : List Str := ["text", "edits", "edit"]
theorem sc_edited_by : FnScope N_edited_by ["text", "edits"] (defScope st_edited_by) := ⟨rfl, rfl, rfl, by decide +kernel, rfl, by decide +kernel, by decide +kernel⟩
def r_edited_by (E1 : DXK) (sp_check_text : DSp) (sp_is_tuple : DS1) (sp_is_edit : DS1) (sp_edited : DS1) : DTS := (dSeq (dDrop (dCallE sp_check_text (dCons (dSlot 0) dNil) E1)) (dSeq (dIfS (dOrT (dNotT (dB (dCall1 sp_is_tuple (dCons (dSlot 1) (dCons (dC (.int 0)) (dCons (dC v_MOST_EDITS) dNil)))))) (dNotT (dB (dCB rAllD (dCons (dLc true (dIt (dSlot 1)) (dgName 2) dYes (dCall1 sp_is_edit (dCons (dSlot 2) dNil)) [2]) dNil))))) (dRaise "BadEdits" (dSlot 1) E1) dNext) (dSeq (dFor (dIt (dSlot 1)) (dgName 2) (dSeq (dAsg (dCall1 sp_edited (dCons (dSlot 0) (dCons (dSlot 2) dNil))) (dgName 0)) (dIfS (dB (dOp (rIsN false) (dSlot 0) (dC .non))) (dRaise "BadEdits" (dSlot 1) E1) dNext))) (dRet (dSlot 0)))))
abbrev st__law_pot : Stmt := topS 25
abbrev N__law_pot : List Str := ["script", "place", "cell", "own", "small"]
theorem sc__law_pot : FnScope N__law_pot ["script", "place"] (defScope st__law_pot) := ⟨rfl, rfl, rfl, by decide +kernel, rfl, by decide +kernel, by decide +kernel⟩
def r__law_pot : DTS := (dSeq (dAsg (dIf (dB (dOp rLtD (dSlot 1) (dCB rLen (dCons (dSlot 0) dNil)))) (dOp rIxD (dSlot 0) (dSlot 1)) (dOp (rAddD true) (dOp (rAddD true) (dOp (rInt (fun _ j => 0 < j) fun i j => .int (i % j)) (dCB rSumD (dCons (dSl true (dSlot 0) dNoPart (dPart (dC (.int 1)))) dNil)) (dC (.int 1000003))) (dOp (rMulD true) (dC (.int 6947)) (dSlot 1))) (dC (.int 431)))) (dgName 2)) (dSeq (dAsg (dOp (rMulD true) (dOp (rInt (fun _ j => 0 < j) fun i j => .int (i % j)) (dCB rIntD (dCons (dCB rAbsD (dCons (dSlot 2) dNil)) dNil)) (dOp rPowD (dOp rPowD (dC (.int 10)) (dC (.int 60))) (dC (.int 5)))) (dCB rIntD (dCons (dOp (rInt (fun _ _ => True) fun i j => .bl (decide (j ≤ i))) (dCB rAbsD (dCons (dSlot 2) dNil)) (dOp rPowD (dC (.int 10)) (dC (.int 18)))) dNil))) (dgName 3)) (dSeq (dAsg (dOp (rInt (fun _ j => 0 < j) fun i j => .int (i % j)) (dCB rIntD (dCons (dSlot 2) dNil)) (dC (.int 2305843009213693951))) (dgName 4)) (dRet (dLst false (dCons (dSlot 3) (dCons (dOp (rInt (fun _ j => 0 < j) fun i j => .int (i % j)) (dCB rIntD (dCons (dOp (rAddD true) (dOp (rAddD true) (dOp (rMulD true) (dSlot 4) (dC (.int 95009))) (dOp (rMulD true) (dOp (rMulD true) (dC (.int 11597)) (dSlot 1)) (dSlot 1))) (dC (.int 838))) dNil)) (dC (.int 2305843009213693921))) (dCons (dC (.int 0)) dNil))))))))
abbrev st__law_take : Stmt := topS 26
abbrev N__law_take : List Str := ["pot", "upto", "prime", "blend", "digit"]
theorem sc__law_take : FnScope N__law_take ["pot", "upto"] (defScope st__law_take) := ⟨rfl, rfl, rfl, by decide +kernel, rfl, by decide +kernel, by decide +kernel⟩
def r__law_take : DTS := (dSeq (dIfS (dB (dOp (rInt (fun _ _ => True) fun i j => .bl (decide (j < i))) (dOp rIxD (dSlot 0) (dC (.int 0))) (dC (.int 0)))) (dSeq (dAsg (dOp (rInt (fun _ j => 0 < j) fun i j => .int (i % j)) (dCB rIntD (dCons (dOp rIxD (dSlot 0) (dC (.int 0))) dNil)) (dSlot 1)) (dgName 4)) (dSeq (dAsg (dOp (rInt (fun _ j => 0 < j ∧ j.natAbs < 2 ^ 64) fun i j => .int (i / j)) (dOp rIxD (dSlot 0) (dC (.int 0))) (dSlot 1)) (dgSub (dSlot 0) (dC (.int 0)) rSetD)) (dRet (dSlot 4)))) dNext) (dSeq (dAsg (dOp (rAddD true) (dOp rIxD (dSlot 0) (dC (.int 2))) (dC (.int 1))) (dgSub (dSlot 0) (dC (.int 2)) rSetD)) (dSeq (dAsg (dOp rIxD (dLst true (dCons (dC (.int 2147483647)) (dCons (dC (.int 2147483629)) (dCons (dC (.int 2147483587)) (dCons (dC (.int 2147483579)) (dCons (dC (.int 2147483563)) dNil)))))) (dOp (rInt (fun _ j => 0 < j) fun i j => .int (i % j)) (dCB rIntD (dCons (dOp rIxD (dSlot 0) (dC (.int 2))) dNil)) (dC (.int 5)))) (dgName 2)) (dSeq (dAsg (dOp (rInt (fun _ j => 0 < j) fun i j => .int (i % j)) (dCB rIntD (dCons (dOp rPowD (dCB rIntD (dCons (dOp (rAddD true) (dOp (rAddD true) (dOp rIxD (dSlot 0) (dC (.int 1))) (dOp (rMulD true) (dOp (rMulD true) (dC (.int 92003)) (dOp rIxD (dSlot 0) (dC (.int 2)))) (dOp rIxD (dSlot 0) (dC (.int 2))))) (dC (.int 638))) dNil)) (dC (.int 3))) dNil)) (dSlot 2)) (dgName 3)) (dSeq (dAsg (dOp (rInt (fun _ j => 0 < j) fun i j => .int (i % j)) (dCB rIntD (dCons (dOp (rMulD true) (dSlot 3) (dOp (rAddD true) (dOp (rInt (fun _ j => 0 < j) fun i j => .int (i % j)) (dCB rIntD (dCons (dSlot 3) dNil)) (dC (.int 10259))) (dOp (rMulD true) (dC (.int 122)) (dOp rIxD (dSlot 0) (dC (.int 2)))))) dNil)) (dC (.int 2305843009213693907))) (dgName 3)) (dRet (dOp (rInt (fun _ j => 0 < j) fun i j => .int (i % j)) (dCB rIntD (dCons (dOp (rInt (fun _ j => 0 < j ∧ j.natAbs < 2 ^ 64) fun i j => .int (i / j)) (dSlot 3) (dC (.int 152))) dNil)) (dSlot 1))))))))
abbrev st__law_of : Stmt := topS 27
abbrev N__law_of : List Str := ["pot", "some"]
theorem sc__law_of : FnScope N__law_of ["pot", "some"] (defScope st__law_of) := ⟨rfl, rfl, rfl, by decide +kernel, rfl, by decide +kernel, by decide +kernel⟩
def r__law_of (sp__law_take : DS1) : DTS := (dRet (dOp rIxD (dSlot 1) (dCall1 sp__law_take (dCons (dSlot 0) (dCons (dCB rLen (dCons (dSlot 1) dNil)) dNil)))))
abbrev st__law_places : Stmt := topS 28
abbrev N__law_places : List Str := ["script", "most"]
theorem sc__law_places : FnScope N__law_places ["script", "most"] (defScope st__law_places) := ⟨rfl, rfl, rfl, by decide +kernel, rfl, by decide +kernel, by decide +kernel⟩
def r__law_places : DTS := (dRet (dListRg true (dCB rMax2D (dCons (dC (.int 1)) (dCons (dCB rMin2D (dCons (dSlot 1) (dCons (dCB rLen (dCons (dSlot 0) dNil)) dNil))) dNil)))))
abbrev st__law_odd : Stmt := topS 30
abbrev N__law_odd : List Str := ["pot", "some"]
theorem sc__law_odd : FnScope N__law_odd ["pot"] (defScope st__law_odd) := ⟨rfl, rfl, rfl, by decide +kernel, rfl, by decide +kernel, by decide +kernel⟩
def r__law_odd (sp__law_of : DS1) : DTS := (dSeq (dAsg (dLst true (dCons (dC .non) (dCons (dC (.bl true)) (dCons (dC (.bl false)) (dCons (dC (.int 0)) (dCons (dC (.int 1)) (dCons (dNeg (dC (.int 1))) (dCons (dC (.int 2)) (dCons (dC (.int 44)) (dCons (dC (.str "")) (dCons (dC (.str "a")) (dCons (dC (.str "A")) (dCons (dC (.str "text")) (dCons (dC (.str "copy")) (dCons (dTup dNil) (dCons (dLst true dNil) (dCons (dTup (dCons (dC (.int 0)) dNil)) (dCons (dTup (dCons (dTup dNil) dNil)) (dCons (dLst true (dCons (dC (.int 0)) dNil)) (dCons (dTup (dCons (dC (.str "a")) dNil)) dNil)))))))))))))))))))) (dgName 1)) (dSeq (dAsg (dOp (rAddD true) (dSlot 1) (dLst true (dCons (dTup (dCons (dC (.str "text")) (dCons (dC (.str "a")) dNil))) (dCons (dTup (dCons (dC (.str "copy")) (dCons (dTup (dCons (dC (.str "text")) (dCons (dC (.str "a")) dNil))) dNil))) (dCons (dTup (dCons (dC .non) dNil)) (dCons (dLst true (dCons (dC (.str "a")) dNil)) (dCons (dOp (rMulD true) (dC (.str "a")) (dC (.int 401))) (dCons (dC (.str "/")) (dCons (dTup (dCons (dC (.str "none")) dNil)) dNil))))))))) (dgName 1)) (dRet (dCall1 sp__law_of (dCons (dSlot 0) (dCons (dSlot 1) dNil))))))
abbrev st__law_bent : Stmt := topS 31
abbrev N__law_bent : List Str := ["pot", "value", "at", "some"]
theorem sc__law_bent : FnScope N__law_bent ["pot", "value"] (defScope st__law_bent) := ⟨rfl, rfl, rfl, by decide +kernel, rfl, by decide +kernel, by decide +kernel⟩
def r__law_bent (sp__law_take : DS1) (sp__law_bent : DS1) (sp__law_of : DS1) (sp__law_odd : DS1) : DTS := (dSeq (dIfS (dAndT (dB (dIsi "tuple" (dSlot 1))) (dAndT (dB (dOp (rEqD2 true) (dSlot 1) (dTup dNil))) (dB (dOp (rInt (fun _ _ => True) fun i j => .bl (decide (j < i))) (dCall1 sp__law_take (dCons (dSlot 0) (dCons (dC (.int 5)) dNil))) (dC (.int 0)))))) (dSeq (dAsg (dCall1 sp__law_take (dCons (dSlot 0) (dCons (dCB rLen (dCons (dSlot 1) dNil)) dNil))) (dgName 2)) (dRet (dOp (rAddD true) (dOp (rAddD true) (dSl true (dSlot 1) dNoPart (dPart (dSlot 2))) (dTup (dCons (dCall1 sp__law_bent (dCons (dSlot 0) (dCons (dOp rIxD (dSlot 1) (dSlot 2)) dNil))) dNil))) (dSl true (dSlot 1) (dPart (dOp (rAddD true) (dSlot 2) (dC (.int 1)))) dNoPart)))) dNext) (dSeq (dIfS (dB (dIsi "tuple" (dSlot 1))) (dRet (dCall1 sp__law_of (dCons (dSlot 0) (dCons (dLst true (dCons (dCB (rListD true) (dCons (dSlot 1) dNil)) (dCons (dSl true (dSlot 1) (dPart (dC (.int 1))) dNoPart) (dCons (dSl true (dSlot 1) dNoPart (dPart (dNeg (dC (.int 1))))) (dCons (dOp (rAddD true) (dSlot 1) (dSl true (dSlot 1) (dPart (dNeg (dC (.int 1)))) dNoPart)) (dCons (dRevS true (dSlot 1)) (dCons (dTup dNil) (dCons (dC .non) dNil)))))))) dNil)))) dNext) (dSeq (dIfS (dB (dIsi "bool" (dSlot 1))) (dRet (dCall1 sp__law_of (dCons (dSlot 0) (dCons (dLst true (dCons (dNotV (dSlot 1)) (dCons (dCB rIntD (dCons (dSlot 1) dNil)) (dCons (dC .non) dNil)))) dNil)))) dNext) (dSeq (dIfS (dB (dIsi "int" (dSlot 1))) (dRet (dCall1 sp__law_of (dCons (dSlot 0) (dCons (dLst true (dCons (dOp (rAddD true) (dSlot 1) (dC (.int 1))) (dCons (dOp (rInt (fun _ _ => True) fun i j => .int (i - j)) (dSlot 1) (dC (.int 1))) (dCons (dNeg (dSlot 1)) (dCons (dCB rStrD (dCons (dSlot 1) dNil)) (dCons (dC .non) (dCons (dOp (rEqD2 false) (dSlot 1) (dC (.int 1))) (dCons (dTup (dCons (dSlot 1) dNil)) dNil)))))))) dNil)))) dNext) (dSeq (dIfS (dB (dIsi "str" (dSlot 1))) (dSeq (dAsg (dLst true (dCons (dOp (rAddD true) (dSlot 1) (dC (.str "a"))) (dCons (dSl true (dSlot 1) dNoPart (dPart (dNeg (dC (.int 1))))) (dCons (dUpper (dSlot 1)) (dCons (dLst true (dCons (dSlot 1) dNil)) (dCons (dC (.str "a")) (dCons (dC .non) (dCons (dC (.int 0)) (dCons (dC (.str "")) (dCons (dOp (rAddD true) (dC (.str "b")) (dSlot 1)) (dCons (dOp (rAddD true) (dSlot 1) (dC (.str "/"))) dNil))))))))))) (dgName 3)) (dRet (dCall1 sp__law_of (dCons (dSlot 0) (dCons (dSlot 3) dNil))))) dNext) (dRet (dCall1 sp__law_odd (dCons (dSlot 0) dNil))))))))
abbrev st__law_n_distance : Stmt := topS 32
abbrev N__law_n_distance : List Str := ["one", "other", "row", "at", "sign", "later", "to", "own"]
theorem sc__law_n_distance : FnScope N__law_n_distance ["one", "other"] (defScope st__law_n_distance) := ⟨rfl, rfl, rfl, by decide +kernel, rfl, by decide +kernel, by decide +kernel⟩
def r__law_n_distance : DTS := (dSeq (dAsg (dListRg true (dOp (rAddD true) (dCB rLen (dCons (dSlot 1) dNil)) (dC (.int 1)))) (dgName 2)) (dSeq (dFor (dEnumS (dSlot 0)) (dgTup 2 (dgCons (dgName 3) (dgCons (dgName 4) dgNil))) (dSeq (dAsg (dLst false (dCons (dOp (rAddD true) (dSlot 3) (dC (.int 1))) dNil)) (dgName 5)) (dSeq (dFor (dEnumS (dSlot 1)) (dgTup 2 (dgCons (dgName 6) (dgCons (dgName 7) dgNil))) (dDrop (dAppend (dSlot 5) (dCB rMin3D (dCons (dOp (rAddD true) (dOp rIxD (dSlot 2) (dSlot 6)) (dCB rIntD (dCons (dOp (rEqD2 true) (dSlot 4) (dSlot 7)) dNil))) (dCons (dOp (rAddD true) (dOp rIxD (dSlot 2) (dOp (rAddD true) (dSlot 6) (dC (.int 1)))) (dC (.int 1))) (dCons (dOp (rAddD true) (dOp rIxD (dSlot 5) (dSlot 6)) (dC (.int 1))) dNil))))))) (dAsg (dSlot 5) (dgName 2))))) (dRet (dOp rIxD (dSlot 2) (dNeg (dC (.int 1)))))))
abbrev st__law_n_any : Stmt := topS 33
abbrev N__law_n_any : List Str := ["pot", "signs", "most", "lap"]
theorem sc__law_n_any : FnScope N__law_n_any ["pot", "signs", "most"] (defScope st__law_n_any) := ⟨rfl, rfl, rfl, by decide +kernel, rfl, by decide +kernel, by decide +kernel⟩
def r__law_n_any (sp__law_take : DS1) (sp__law_of : DS1) : DTS := (dRet (dJoin (dC (.str "")) (dLc true (dRange1 (dCall1 sp__law_take (dCons (dSlot 0) (dCons (dOp (rAddD true) (dSlot 2) (dC (.int 1))) dNil)))) (dgName 3) dYes (dCall1 sp__law_of (dCons (dSlot 0) (dCons (dSlot 1) dNil))) [3])))
abbrev st__law_signs_of_all : Stmt := topS 34
abbrev N__law_signs_of_all : List Str := []
theorem sc__law_signs_of_all : FnScope N__law_signs_of_all [] (defScope st__law_signs_of_all) := ⟨rfl, rfl, rfl, by decide +kernel, rfl, by decide +kernel, by decide +kernel⟩
def r__law_signs_of_all : DTS := (dRet (dC (.str "\x0a ,-.0123456789:;=abcdefghijklmnopqrstuvwxyz")))
abbrev st__law_done : Stmt := topS 35
abbrev N__law_done : List Str := ["text", "value", "edit", "place", "new"]
theorem sc__law_done : FnScope N__law_done ["text", "value"] (defScope st__law_done) := ⟨rfl, rfl, rfl, by decide +kernel, rfl, by decide +kernel, by decide +kernel⟩
def r__law_done (sp__law_signs_of_all : DS1) : DTS := (dSeq (dIfS (dOrT (dNotT (dB (dIsi "tuple" (dSlot 1)))) (dB (dOp (rInt (fun _ _ => True) fun i j => .bl (decide (j < i))) (dCB rLen (dCons (dSlot 1) dNil)) (dC (.int 200))))) (dRet (dC .non)) dNext) (dSeq (dFor (dIt (dSlot 1)) (dgName 2) (dSeq (dIfS (dOrT (dNotT (dB (dIsi "tuple" (dSlot 2)))) (dOrT (dB (dOp (rInD true) (dCB rLen (dCons (dSlot 2) dNil)) (dTup (dCons (dC (.int 2)) (dCons (dC (.int 3)) dNil))))) (dNotT (dB (dIsi "str" (dOp rIxD (dSlot 2) (dC (.int 0)))))))) (dRet (dC .non)) dNext) (dSeq (dIfS (dOrT (dNotT (dB (dIsi "int" (dOp rIxD (dSlot 2) (dC (.int 1)))))) (dOrT (dB (dIsi "bool" (dOp rIxD (dSlot 2) (dC (.int 1))))) (dB (dOp (rEqD2 true) (dOp (rEqD2 false) (dOp rIxD (dSlot 2) (dC (.int 0))) (dC (.str "out"))) (dOp (rEqD2 false) (dCB rLen (dCons (dSlot 2) dNil)) (dC (.int 2))))))) (dRet (dC .non)) dNext) (dSeq (dIfS (dB (dOp (rInD true) (dOp rIxD (dSlot 2) (dC (.int 0))) (dTup (dCons (dC (.str "in")) (dCons (dC (.str "out")) (dCons (dC (.str "turn")) dNil)))))) (dRet (dC .non)) dNext) (dIfS (dAndT (dB (dOp (rEqD2 false) (dCB rLen (dCons (dSlot 2) dNil)) (dC (.int 3)))) (dOrT (dNotT (dB (dIsi "str" (dOp rIxD (dSlot 2) (dC (.int 2)))))) (dOrT (dB (dOp (rEqD2 true) (dCB rLen (dCons (dOp rIxD (dSlot 2) (dC (.int 2))) dNil)) (dC (.int 1)))) (dB (dOp (rInD true) (dOp rIxD (dSlot 2) (dC (.int 2))) (dCall1 sp__law_signs_of_all dNil)))))) (dRet (dC .non)) dNext))))) (dSeq (dFor (dIt (dSlot 1)) (dgName 2) (dSeq (dAsg (dOp rIxD (dSlot 2) (dC (.int 1))) (dgName 3)) (dSeq (dIfS (dOrT (dNotT (dB (dChain (rInt (fun _ _ => True) fun i j => .bl (decide (i ≤ j))) (rInt (fun _ _ => True) fun i j => .bl (decide (i ≤ j))) (dC (.int 0)) (dSlot 3) (dCB rLen (dCons (dSlot 0) dNil))))) (dAndT (dB (dOp (rEqD2 true) (dOp rIxD (dSlot 2) (dC (.int 0))) (dC (.str "in")))) (dB (dOp (rEqD2 false) (dSlot 3) (dCB rLen (dCons (dSlot 0) dNil)))))) (dRet (dC .non)) dNext) (dSeq (dIfS (dAndT (dB (dOp (rEqD2 false) (dOp rIxD (dSlot 2) (dC (.int 0))) (dC (.str "turn")))) (dB (dOp (rEqD2 false) (dOp rIxD (dSlot 0) (dSlot 3)) (dOp rIxD (dSlot 2) (dC (.int 2)))))) (dRet (dC .non)) dNext) (dSeq (dAsg (dIf (dB (dOp (rEqD2 false) (dCB rLen (dCons (dSlot 2) dNil)) (dC (.int 3)))) (dOp rIxD (dSlot 2) (dC (.int 2))) (dC (.str ""))) (dgName 4)) (dAsg (dOp (rAddD true) (dOp (rAddD true) (dSl true (dSlot 0) dNoPart (dPart (dSlot 3))) (dSlot 4)) (dSl true (dSlot 0) (dPart (dOp (rAddD true) (dSlot 3) (dIf (dB (dOp (rEqD2 false) (dOp rIxD (dSlot 2) (dC (.int 0))) (dC (.str "in")))) (dC (.int 0)) (dC (.int 1))))) dNoPart)) (dgName 0))))))) (dRet (dSlot 0)))))
abbrev st__law_is_done : Stmt := topS 36
abbrev N__law_is_done : List Str := ["text", "value", "due", "caught", "told"]
theorem sc__law_is_done : FnScope N__law_is_done ["text", "value"] (defScope st__law_is_done) := ⟨rfl, rfl, rfl, by decide +kernel, rfl, by decide +kernel, by decide +kernel⟩
def r__law_is_done (sp_edited_by : DSp) (sp__law_done : DS1) : DTS := (dSeq (dAsg (dHeard kn fun E1 => (dCallE sp_edited_by (dCons (dSlot 0) (dCons (dSlot 1) dNil)) E1)) (dgTup 2 (dgCons (dgName 3) (dgCons (dgName 4) dgNil)))) (dSeq (dAsg (dCall1 sp__law_done (dCons (dSlot 0) (dCons (dSlot 1) dNil))) (dgName 2)) (dSeq (dIfS (dB (dOp (rIsN false) (dSlot 2) (dC .non))) (dRet (dAndV (dIsE kn (isC "BadEdits") (dSlot 3)) (dOp (rEqD2 false) (dCB rReprD (dCons (dExcV kn (dSlot 3)) dNil)) (dCB rReprD (dCons (dSlot 1) dNil))))) dNext) (dRet (dAndV (dOp (rIsN false) (dSlot 3) (dC .non)) (dOp (rEqD2 false) (dCB rReprD (dCons (dSlot 4) dNil)) (dCB rReprD (dCons (dSlot 2) dNil))))))))
abbrev st__law_right : Stmt := topS 37
abbrev N__law_right : List Str := ["pot", "texts", "far", "one", "values", "lap", "other", "third", "some", "turn", "due", "told", "word", "place", "value"]
theorem sc__law_right : FnScope N__law_right ["pot"] (defScope st__law_right) := ⟨rfl, rfl, rfl, by decide +kernel, rfl, by decide +kernel, by decide +kernel⟩
def r__law_right (sp__law_n_any : DS1) (sp__law_of : DS1) (sp__law_n_distance : DS1) (sp_edits : DSp) (sp_distance : DSp) (sp__law_done : DS1) (sp_edited_by : DSp) (sp__law_bent : DS1) (sp__law_take : DS1) (sp__law_is_done : DS1) : DTS := (dSeq (dAsg (dLc true (dRange1 (dC (.int 3))) (dgName 5) dYes (dCall1 sp__law_n_any (dCons (dSlot 0) (dCons (dCall1 sp__law_of (dCons (dSlot 0) (dCons (dLst true (dCons (dC (.str "ab")) (dCons (dC (.str "abc")) (dCons (dC (.str "a1 ;")) dNil)))) dNil))) (dCons (dC (.int 12)) dNil)))) [5]) (dgName 1)) (dSeq (dAsg (dCall1 sp__law_n_any (dCons (dSlot 0) (dCons (dC (.str "ab")) (dCons (dC (.int 100)) dNil)))) (dgName 2)) (dSeq (dFor (dIt (dOp (rAddD true) (dSlot 1) (dLst true (dCons (dSlot 2) dNil)))) (dgName 3) (dFor (dIt (dSlot 1)) (dgName 6) (dSeq (dAsg (dCall1 sp__law_n_distance (dCons (dSlot 3) (dCons (dSlot 6) dNil))) (dgName 10)) (dSeq (dAsg (dCallE sp_edits (dCons (dSlot 3) (dCons (dSlot 6) dNil)) fun _ _ _ => False) (dgName 11)) (dSeq (dIfS (dOrT (dB (dOp (rEqD2 true) (dCB rReprD (dCons (dCallE sp_distance (dCons (dSlot 3) (dCons (dSlot 6) dNil)) fun _ _ _ => False) dNil)) (dCB rReprD (dCons (dSlot 10) dNil)))) (dOrT (dB (dOp (rEqD2 true) (dCB rLen (dCons (dSlot 11) dNil)) (dSlot 10))) (dB (dOp (rEqD2 true) (dCall1 sp__law_done (dCons (dSlot 3) (dCons (dSlot 11) dNil))) (dSlot 6))))) (dRet (dC (.bl false))) dNext) (dIfS (dB (dOp (rEqD2 true) (dCallE sp_edited_by (dCons (dSlot 3) (dCons (dSlot 11) dNil)) fun _ _ _ => False) (dSlot 6))) (dRet (dC (.bl false))) dNext)))))) (dSeq (dAsg (dSlot 1) (dgLst 3 (dgCons (dgName 3) (dgCons (dgName 6) (dgCons (dgName 7) dgNil))))) (dSeq (dIfS (dB (dOp (rInt (fun _ _ => True) fun i j => .bl (decide (j < i))) (dCallE sp_distance (dCons (dSlot 3) (dCons (dSlot 7) dNil)) fun _ _ _ => False) (dOp (rAddD true) (dCallE sp_distance (dCons (dSlot 3) (dCons (dSlot 6) dNil)) fun _ _ _ => False) (dCallE sp_distance (dCons (dSlot 6) (dCons (dSlot 7) dNil)) fun _ _ _ => False)))) (dRet (dC (.bl false))) dNext) (dSeq (dAsg (dLst false (dCons (dTup dNil) (dCons (dC .non) (dCons (dLst true dNil) (dCons (dC (.str "in")) (dCons (dTup (dCons (dTup (dCons (dC (.str "in")) (dCons (dC (.int 0)) (dCons (dC (.str "a")) dNil)))) dNil)) (dCons (dTup (dCons (dTup (dCons (dC (.str "out")) (dCons (dC (.int 0)) dNil))) dNil)) (dCons (dTup (dCons (dTup (dCons (dC (.str "turn")) (dCons (dC (.int 0)) (dCons (dC (.str "a")) dNil)))) dNil)) (dCons (dTup (dCons (dTup (dCons (dC (.str "in")) (dCons (dCB rLen (dCons (dSlot 3) dNil)) (dCons (dC (.str "z")) dNil)))) dNil)) dNil))))))))) (dgName 4)) (dSeq (dAsg (dOp (rAddD false) (dSlot 4) (dLst true (dCons (dTup (dCons (dTup (dCons (dC (.str "out")) (dCons (dCB rLen (dCons (dSlot 3) dNil)) dNil))) dNil)) (dCons (dTup (dCons (dTup (dCons (dC (.str "in")) (dCons (dNeg (dC (.int 1))) (dCons (dC (.str "a")) dNil)))) dNil)) (dCons (dTup (dCons (dTup (dCons (dC (.str "in")) (dCons (dC (.int 0)) (dCons (dC (.str "ab")) dNil)))) dNil)) (dCons (dTup (dCons (dTup (dCons (dC (.str "in")) (dCons (dC (.int 0)) (dCons (dC (.str "A")) dNil)))) dNil)) dNil)))))) (dgName 4)) (dSeq (dDrop (dAppend (dSlot 4) (dTup (dCons (dTup (dCons (dC (.str "in")) (dCons (dC (.bl true)) (dCons (dC (.str "a")) dNil)))) dNil)))) (dSeq (dAsg (dOp (rAddD false) (dSlot 4) (dLst true (dCons (dTup (dCons (dTup (dCons (dC (.str "out")) (dCons (dC (.int 0)) (dCons (dC (.str "a")) dNil)))) dNil)) (dCons (dTup (dCons (dTup (dCons (dC (.str "in")) (dCons (dC (.int 0)) dNil))) dNil)) (dCons (dTup (dCons (dTup (dCons (dC (.str "in")) (dCons (dC (.int 0)) (dCons (dC (.str "")) dNil)))) dNil)) (dCons (dOp rRepTD (dTup (dCons (dTup (dCons (dC (.str "in")) (dCons (dC (.int 0)) (dCons (dC (.str "a")) dNil)))) (dCons (dTup (dCons (dC (.str "out")) (dCons (dC (.int 0)) dNil))) dNil))) (dC (.int 101))) dNil)))))) (dgName 4)) (dSeq (dAsg (dOp (rAddD false) (dSlot 4) (dLst true (dCons (dOp rRepTD (dTup (dCons (dTup (dCons (dC (.str "in")) (dCons (dC (.int 0)) (dCons (dC (.str "a")) dNil)))) (dCons (dTup (dCons (dC (.str "out")) (dCons (dC (.int 0)) dNil))) dNil))) (dC (.int 100))) dNil))) (dgName 4)) (dSeq (dDrop (dExtend (dSlot 4) (dLc true (dRange1 (dC (.int 8))) (dgName 5) dYes (dCall1 sp__law_bent (dCons (dSlot 0) (dCons (dCallE sp_edits (dCons (dSlot 3) (dCons (dSlot 6) dNil)) fun _ _ _ => False) dNil))) [5]))) (dSeq (dFor (dRange1 (dC (.int 8))) (dgName 5) (dSeq (dAsg (dLst false dNil) (dgName 8)) (dSeq (dFor (dRange1 (dCall1 sp__law_take (dCons (dSlot 0) (dCons (dC (.int 4)) dNil)))) (dgName 9) (dSeq (dAsg (dCall1 sp__law_of (dCons (dSlot 0) (dCons (dLst true (dCons (dC (.str "in")) (dCons (dC (.str "turn")) (dCons (dC (.str "out")) dNil)))) dNil))) (dgName 12)) (dSeq (dAsg (dCall1 sp__law_take (dCons (dSlot 0) (dCons (dOp (rAddD true) (dCB rLen (dCons (dSlot 3) dNil)) (dC (.int 2))) dNil))) (dgName 13)) (dDrop (dAppend (dSlot 8) (dIf (dB (dOp (rEqD2 false) (dSlot 12) (dC (.str "out")))) (dTup (dCons (dSlot 12) (dCons (dSlot 13) dNil))) (dTup (dCons (dSlot 12) (dCons (dSlot 13) (dCons (dCall1 sp__law_of (dCons (dSlot 0) (dCons (dC (.str "abc")) dNil))) dNil)))))))))) (dDrop (dAppend (dSlot 4) (dCB rTupD (dCons (dSlot 8) dNil))))))) (dRet (dCB rAllD (dCons (dLc true (dIt (dSlot 4)) (dgName 14) dYes (dCall1 sp__law_is_done (dCons (dSlot 3) (dCons (dSlot 14) dNil))) [14]) dNil)))))))))))))))
abbrev st_law : Stmt := topS 38
abbrev N_law : List Str := ["script", "value", "place", "call", "pot", "caught", "told", "other", "lap"]
theorem sc_law : FnScope N_law ["script"] (defScope st_law) := ⟨rfl, rfl, rfl, by decide +kernel, rfl, by decide +kernel, by decide +kernel⟩
def r_law (f_edits : Addr) (f_distance : Addr) (S_call : Addr → DSp → Prop) (sp_edited_by : DSp) (sp__law_places : DS1) (sp__law_pot : DS1) (sp__law_right : DS1) (sp_distance : DSp) : DTS := (dSeq (dFor (dIt (dTup (dCons (dC .non) (dCons (dC (.int 3)) (dCons (dC (.str "A")) (dCons (dOp (rMulD true) (dC (.str "a")) (dC (.int 101))) (dCons (dLst true (dCons (dC (.str "a")) dNil)) (dCons (dC (.bl true)) dNil)))))))) (dgName 1) (dSeq (dFor (dIt (dTup (dCons (dC (.ref f_distance)) (dCons (dC (.ref f_edits)) dNil)))) (dgName 3) (dSeq (dAsg (dHeard kn fun E1 => (dCallV 3 S_call (dCons (dSlot 1) (dCons (dC .non) dNil)) E1)) (dgTup 2 (dgCons (dgName 5) (dgCons (dgName 6) dgNil)))) (dSeq (dAsg (dHeard kn fun E1 => (dCallV 3 S_call (dCons (dC (.str "")) (dCons (dSlot 1) dNil)) E1)) (dgTup 2 (dgCons (dgName 7) (dgCons (dgName 6) dgNil)))) (dIfS (dOrT (dNotT (dB (dIsE kn (isC "BadText") (dSlot 5)))) (dOrT (dNotT (dB (dIsE kn (isC "BadText") (dSlot 7)))) (dB (dOp (rEqD2 true) (dCB rReprD (dCons (dExcV kn (dSlot 7)) dNil)) (dCB rReprD (dCons (dSlot 1) dNil)))))) (dRet (dC (.bl false))) dNext)))) (dSeq (dAsg (dHeard kn fun E1 => (dCallE sp_edited_by (dCons (dSlot 1) (dCons (dC .non) dNil)) E1)) (dgTup 2 (dgCons (dgName 5) (dgCons (dgName 6) dgNil)))) (dIfS (dOrT (dNotT (dB (dIsE kn (isC "BadText") (dSlot 5)))) (dB (dOp (rEqD2 true) (dCB rReprD (dCons (dExcV kn (dSlot 5)) dNil)) (dCB rReprD (dCons (dSlot 1) dNil))))) (dRet (dC (.bl false))) dNext)))) (dSeq (dFor (dIt (dCall1 sp__law_places (dCons (dSlot 0) (dCons (dC (.int 3)) dNil)))) (dgName 2) (dSeq (dAsg (dCall1 sp__law_pot (dCons (dSlot 0) (dCons (dSlot 2) dNil))) (dgName 4)) (dIfS (dNotT (dB (dCB rAllD (dCons (dLc true (dRange1 (dC (.int 3))) (dgName 8) dYes (dCall1 sp__law_right (dCons (dSlot 4) dNil)) [8]) dNil)))) (dRet (dC (.bl false))) dNext))) (dRet (dOp (rEqD2 false) (dCallE sp_distance (dCons (dC (.str "kitten")) (dCons (dC (.str "sitting")) dNil)) fun _ _ _ => False) (dC (.int 3))))))
/-- what the text's top leaves, as the walk asks it -/
structure Txt (K : PySem.W.Frag) (mg : Str → Option Value) : Prop where
  m_abs : mg "abs" = none
  m_all : mg "all" = none
  m_bool : mg "bool" = none
  m_enumerate : mg "enumerate" = none
  m_int : mg "int" = none
  m_isinstance : mg "isinstance" = none
  m_len : mg "len" = none
  m_list : mg "list" = none
  m_max : mg "max" = none
  m_min : mg "min" = none
  m_range : mg "range" = none
  m_repr : mg "repr" = none
  m_str : mg "str" = none
  m_sum : mg "sum" = none
  m_tuple : mg "tuple" = none
  g_IN : Glob K mg "IN" v_IN
  g_MOST_EDITS : Glob K mg "MOST_EDITS" v_MOST_EDITS
  g_MOST_TEXT : Glob K mg "MOST_TEXT" v_MOST_TEXT
  g_OUT : Glob K mg "OUT" v_OUT
  g_PAIR : Glob K mg "PAIR" v_PAIR
  g_SIGNS : Glob K mg "SIGNS" v_SIGNS
  g_TRIPLE : Glob K mg "TRIPLE" v_TRIPLE
  g_TURN : Glob K mg "TURN" v_TURN
  h_is_tuple : Has K mg "is_tuple" "is_tuple" st_is_tuple ["value", "least", "most"] []
  h_is_whole : Has K mg "is_whole" "is_whole" st_is_whole ["value"] []
  h_is_short : Has K mg "is_short" "is_short" st_is_short ["value"] []
  h_check_text : Has K mg "check_text" "check_text" st_check_text ["value"] []
  h_distances : Has K mg "distances" "distances" st_distances ["one", "other"] []
  h_distance : Has K mg "distance" "distance" st_distance ["one", "other"] []
  h_edits : Has K mg "edits" "edits" st_edits ["one", "other"] []
  h_is_edit : Has K mg "is_edit" "is_edit" st_is_edit ["value"] []
  h_edited : Has K mg "edited" "edited" st_edited ["text", "edit"] []
  h_edited_by : Has K mg "edited_by" "edited_by" st_edited_by ["text", "edits"] []
  h__law_pot : Has K mg "_law_pot" "_law_pot" st__law_pot ["script", "place"] []
  h__law_take : Has K mg "_law_take" "_law_take" st__law_take ["pot", "upto"] []
  h__law_of : Has K mg "_law_of" "_law_of" st__law_of ["pot", "some"] []
  h__law_places : Has K mg "_law_places" "_law_places" st__law_places ["script", "most"] []
  h__law_heard : Has K mg "_law_heard" "_law_heard" st__law_heard ["call"] []
  h__law_odd : Has K mg "_law_odd" "_law_odd" st__law_odd ["pot"] []
  h__law_bent : Has K mg "_law_bent" "_law_bent" st__law_bent ["pot", "value"] []
  h__law_n_distance : Has K mg "_law_n_distance" "_law_n_distance" st__law_n_distance ["one", "other"] []
  h__law_n_any : Has K mg "_law_n_any" "_law_n_any" st__law_n_any ["pot", "signs", "most"] []
  h__law_signs_of_all : Has K mg "_law_signs_of_all" "_law_signs_of_all" st__law_signs_of_all [] []
  h__law_done : Has K mg "_law_done" "_law_done" st__law_done ["text", "value"] []
  h__law_is_done : Has K mg "_law_is_done" "_law_is_done" st__law_is_done ["text", "value"] []
  h__law_right : Has K mg "_law_right" "_law_right" st__law_right ["pot"] []
section
variable {P : Program} {w : World} {K : PySem.W.Frag} {mg : Str → Option Value} {base : Heap}
theorem c_is_tuple {k : Nat} {TT : TT8} (T : Txt K mg) {sp : DS1} (read : ∀ ds M Q, sp ds M Q → ds.length = 3 ∧ r_is_tuple { nx := fun _ M' => Q .non M', rt := Q } (dstart N_is_tuple ds) M) : Cal1 P w K TT mg base (k + 1) "is_tuple" sp :=
  dcal1 T.h_is_tuple sc_is_tuple (t := r_is_tuple) (fun f cdv A outer s H E Y E1 hT hr gu g =>
    (dss_one (ds_ret (de_and (de_isi T.m_isinstance T.m_tuple (de_v 0)) (de_one (de_chain od_le od_le (de_v 1) (de_b cd_len T.m_len (da_cons (de_v 0) da_nil)) (de_v 2))))))) read
theorem c_is_whole {k : Nat} {TT : TT8} (T : Txt K mg) {sp : DS1} (read : ∀ ds M Q, sp ds M Q → ds.length = 1 ∧ r_is_whole { nx := fun _ M' => Q .non M', rt := Q } (dstart N_is_whole ds) M) : Cal1 P w K TT mg base (k + 1) "is_whole" sp :=
  dcal1 T.h_is_whole sc_is_whole (t := r_is_whole) (fun f cdv A outer s H E Y E1 hT hr gu g =>
    (dss_one (ds_ret (de_and (de_isi T.m_isinstance T.m_int (de_v 0)) (de_one (de_not (de_isi T.m_isinstance T.m_bool (de_v 0)))))))) read
theorem c_is_short {k : Nat} {TT : TT8} (T : Txt K mg) {sp : DS1} (read : ∀ ds M Q, sp ds M Q → ds.length = 1 ∧ r_is_short { nx := fun _ M' => Q .non M', rt := Q } (dstart N_is_short ds) M) : Cal1 P w K TT mg base (k + 1) "is_short" sp :=
  dcal1 T.h_is_short sc_is_short (t := r_is_short) (fun f cdv A outer s H E Y E1 hT hr gu g =>
    (dss_one (ds_ret (de_and (de_isi T.m_isinstance T.m_str (de_v 0)) (de_and (de_cmp od_le (de_b cd_len T.m_len (da_cons (de_v 0) da_nil)) (de_g T.g_MOST_TEXT) (nomark _)) (de_one (de_b (cd_all rfl) T.m_all (da_cons (de_lc true (own := [("sign", 1)]) (g := (dgName 1)) (tt := dYes) (te := (dOp (rInD false) (dSlot 1) (dC v_SIGNS))) rfl sc_is_short.nd (di_it (de_v 0)) (blkOk_by (own := [("sign", 1)]) (N := N_is_short) (sc := defScope st_is_short) (by decide +kernel)) (by decide) (fun _ _ _ _ _ => (dg_name (i := 1) sc_is_short.nd rfl (by first | exact Or.inl rfl | exact Or.inr rfl))) (fun _ _ _ _ _ => dts_nil) (fun _ _ _ _ _ => (de_cmp od_in (de_v 1) (de_g T.g_SIGNS) (by with_unfolding_all rfl)))) da_nil)))))))) read
theorem c_check_text {k : Nat} {TT : TT8} (T : Txt K mg) (XE : Exs P w K mg base) (hk : 2 ≤ k) {sp_is_short : DS1} (c_is_short : Cal1 P w K TT mg base k "is_short" sp_is_short) {sp : DSp} (read : ∀ ds M Q E, sp ds M Q E → ds.length = 1 ∧ r_check_text E sp_is_short { nx := fun _ M' => Q .non M', rt := Q } (dstart N_check_text ds) M) : Cal P w K TT mg base (k + 1) "check_text" [] sp :=
  dcal T.h_check_text sc_check_text (t := fun E1 => r_check_text E1 sp_is_short) (fun f cdv A outer s H E Y E1 hT hr gu g =>
    (dss_one (ds_if (dt_not (dt_val (de_call1 (c_is_short.on hT) hr gu g.xt (da_cons (de_v 0) da_nil)))) (dss_one (ds_raise XE.x_BadText (hr.mono hk) g rfl (de_v 0))) dss_nil))) read
theorem c_distances {k : Nat} {TT : TT8} (T : Txt K mg) {sp : DS1} (read : ∀ ds M Q, sp ds M Q → ds.length = 2 ∧ r_distances { nx := fun _ M' => Q .non M', rt := Q } (dstart N_distances ds) M) : Cal1 P w K TT mg base (k + 1) "distances" sp :=
  dcal1 T.h_distances sc_distances (t := r_distances) (fun f cdv A outer s H E Y E1 hT hr gu g =>
    (dss_cons (ds_set (i := 2) sc_distances.nd rfl (by first | exact Or.inl rfl | exact Or.inr rfl) (de_lst false (da_cons (de_lc true (own := [("at", 4)]) (g := (dgName 4)) (tt := dYes) (te := (dOp (rInt (fun _ _ => True) fun i j => .int (i - j)) (dCB rLen (dCons (dSlot 1) dNil)) (dSlot 4))) rfl sc_distances.nd (di_range1 T.m_range (de_op (od_add true) (de_b cd_len T.m_len (da_cons (de_v 1) da_nil)) de_int)) (blkOk_by (own := [("at", 4)]) (N := N_distances) (sc := defScope st_distances) (by decide +kernel)) (by decide) (fun _ _ _ _ _ => (dg_name (i := 4) sc_distances.nd rfl (by first | exact Or.inl rfl | exact Or.inr rfl))) (fun _ _ _ _ _ => dts_nil) (fun _ _ _ _ _ => (de_op od_sub (de_b cd_len T.m_len (da_cons (de_v 1) da_nil)) (de_v 4)))) da_nil)))
    (dss_cons (ds_for (passes_of rfl) rfl (di_it (de_revS true (de_v 0))) (dg_name (i := 3) sc_distances.nd rfl (by first | exact Or.inl rfl | exact Or.inr rfl)) (dss_cons (ds_par (i := 5) (j := 6) rfl sc_distances.nd rfl rfl (by decide) rfl rfl (da_cons (de_ix (de_v 2) (de_neg de_int)) (da_cons (de_lst false (da_cons (de_op (od_add true) (de_ix (de_ix (de_v 2) (de_neg de_int)) (de_b cd_len T.m_len (da_cons (de_v 1) da_nil))) de_int) da_nil)) da_nil)))
    (dss_cons (ds_for (passes_of rfl) rfl (di_rangeDn T.m_range (de_op od_sub (de_b cd_len T.m_len (da_cons (de_v 1) da_nil)) de_int) (de_neg de_int) (de_neg de_int)) (dg_name (i := 4) sc_distances.nd rfl (by first | exact Or.inl rfl | exact Or.inr rfl)) (dss_cons (ds_set (i := 7) sc_distances.nd rfl (by first | exact Or.inl rfl | exact Or.inr rfl) (de_op (od_add true) (de_ix (de_v 5) (de_op (od_add true) (de_v 4) de_int)) (de_bT cd_int T.m_int (da_cons (de_cmp (od_ne hr) (de_v 3) (de_ix (de_v 1) (de_v 4)) (nomark _)) da_nil))))
    (dss_one (ds_expr (de_append (de_v 6) (de_b (cd_min3 rfl) T.m_min (da_cons (de_v 7) (da_cons (de_op (od_add true) (de_ix (de_v 5) (de_v 4)) de_int) (da_cons (de_op (od_add true) (de_ix (de_v 6) (de_neg de_int)) de_int) da_nil)))))))))
    (dss_one (ds_expr (de_append (de_v 2) (de_revS true (de_v 6))))))))
    (dss_one (ds_ret (de_revS true (de_v 2))))))) read
theorem c_distance {k : Nat} {TT : TT8} (T : Txt K mg) {sp_check_text : DSp} (c_check_text : Cal P w K TT mg base k "check_text" [] sp_check_text) {sp_distances : DS1} (c_distances : Cal1 P w K TT mg base k "distances" sp_distances) {sp : DSp} (read : ∀ ds M Q E, sp ds M Q E → ds.length = 2 ∧ r_distance E sp_check_text sp_distances { nx := fun _ M' => Q .non M', rt := Q } (dstart N_distance ds) M) : Cal P w K TT mg base (k + 1) "distance" [] sp :=
  dcal T.h_distance sc_distance (t := fun E1 => r_distance E1 sp_check_text sp_distances) (fun f cdv A outer s H E Y E1 hT hr gu g =>
    (dss_cons (ds_expr (de_callE (c_check_text.on hT) hr gu g (da_cons (de_v 0) da_nil)))
    (dss_cons (ds_expr (de_callE (c_check_text.on hT) hr gu g (da_cons (de_v 1) da_nil)))
    (dss_one (ds_ret (de_ix (de_ix (de_call1 (c_distances.on hT) hr gu g.xt (da_cons (de_v 0) (da_cons (de_v 1) da_nil))) de_int) de_int)))))) read
theorem c_edits {k : Nat} {TT : TT8} (T : Txt K mg) {sp_check_text : DSp} (c_check_text : Cal P w K TT mg base k "check_text" [] sp_check_text) {sp_distances : DS1} (c_distances : Cal1 P w K TT mg base k "distances" sp_distances) {sp : DSp} (read : ∀ ds M Q E, sp ds M Q E → ds.length = 2 ∧ r_edits E sp_check_text sp_distances { nx := fun _ M' => Q .non M', rt := Q } (dstart N_edits ds) M) : Cal P w K TT mg base (k + 1) "edits" [] sp :=
  dcal T.h_edits sc_edits (t := fun E1 => r_edits E1 sp_check_text sp_distances) (fun f cdv A outer s H E Y E1 hT hr gu g =>
    (dss_cons (ds_expr (de_callE (c_check_text.on hT) hr gu g (da_cons (de_v 0) da_nil)))
    (dss_cons (ds_expr (de_callE (c_check_text.on hT) hr gu g (da_cons (de_v 1) da_nil)))
    (dss_cons (ds_asg (de_tup (da_cons (de_call1 (c_distances.on hT) hr gu g.xt (da_cons (de_v 0) (da_cons (de_v 1) da_nil))) (da_cons (de_lst false da_nil) (da_cons de_int (da_cons de_int da_nil))))) (dg_tup rfl (dgs_cons (dg_name (i := 2) sc_edits.nd rfl (by first | exact Or.inl rfl | exact Or.inr rfl)) (dgs_cons (dg_name (i := 3) sc_edits.nd rfl (by first | exact Or.inl rfl | exact Or.inr rfl)) (dgs_cons (dg_name (i := 4) sc_edits.nd rfl (by first | exact Or.inl rfl | exact Or.inr rfl)) (dgs_cons (dg_name (i := 5) sc_edits.nd rfl (by first | exact Or.inl rfl | exact Or.inr rfl)) dgs_nil))))))
    (dss_cons (ds_while (passes_of rfl) (dt_w (dw_or (dt_cmp od_lt (de_v 4) (de_b cd_len T.m_len (da_cons (de_v 0) da_nil)) (nomark _)) (dw_or1 (dt_cmp od_lt (de_v 5) (de_b cd_len T.m_len (da_cons (de_v 1) da_nil)) (nomark _))))) (dss_cons (ds_set (i := 6) sc_edits.nd rfl (by first | exact Or.inl rfl | exact Or.inr rfl) (de_ix (de_ix (de_v 2) (de_v 4)) (de_v 5)))
    (dss_cons (ds_set (i := 7) sc_edits.nd rfl (by first | exact Or.inl rfl | exact Or.inr rfl) (de_and (de_cmp od_lt (de_v 4) (de_b cd_len T.m_len (da_cons (de_v 0) da_nil)) (nomark _)) (de_one (de_cmp od_lt (de_v 5) (de_b cd_len T.m_len (da_cons (de_v 1) da_nil)) (nomark _)))))
    (dss_one (ds_if (dt_w (dw_and (dt_val (de_v 7)) (dw_and (dt_cmp (od_eq hr) (de_ix (de_v 0) (de_v 4)) (de_ix (de_v 1) (de_v 5)) (nomark _)) (dw_and1 (dt_cmp (od_eq hr) (de_ix (de_ix (de_v 2) (de_op (od_add true) (de_v 4) de_int)) (de_op (od_add true) (de_v 5) de_int)) (de_v 6) (nomark _)))))) (dss_one (ds_par (i := 4) (j := 5) rfl sc_edits.nd rfl rfl (by decide) rfl rfl (da_cons (de_op (od_add true) (de_v 4) de_int) (da_cons (de_op (od_add true) (de_v 5) de_int) da_nil)))) (dss_one (ds_if (dt_w (dw_and (dt_val (de_v 7)) (dw_and1 (dt_cmp (od_eq hr) (de_ix (de_ix (de_v 2) (de_op (od_add true) (de_v 4) de_int)) (de_op (od_add true) (de_v 5) de_int)) (de_op od_sub (de_v 6) de_int) (nomark _))))) (dss_cons (ds_expr (de_append (de_v 3) (de_tup (da_cons (de_g T.g_TURN) (da_cons (de_v 5) (da_cons (de_ix (de_v 1) (de_v 5)) da_nil))))))
    (dss_one (ds_par (i := 4) (j := 5) rfl sc_edits.nd rfl rfl (by decide) rfl rfl (da_cons (de_op (od_add true) (de_v 4) de_int) (da_cons (de_op (od_add true) (de_v 5) de_int) da_nil))))) (dss_one (ds_if (dt_w (dw_and (dt_cmp od_lt (de_v 4) (de_b cd_len T.m_len (da_cons (de_v 0) da_nil)) (nomark _)) (dw_and1 (dt_cmp (od_eq hr) (de_ix (de_ix (de_v 2) (de_op (od_add true) (de_v 4) de_int)) (de_v 5)) (de_op od_sub (de_v 6) de_int) (nomark _))))) (dss_cons (ds_expr (de_append (de_v 3) (de_tup (da_cons (de_g T.g_OUT) (da_cons (de_v 5) da_nil)))))
    (dss_one (ds_set (i := 4) sc_edits.nd rfl (by first | exact Or.inl rfl | exact Or.inr rfl) (de_op (od_add true) (de_v 4) de_int)))) (dss_cons (ds_expr (de_append (de_v 3) (de_tup (da_cons (de_g T.g_IN) (da_cons (de_v 5) (da_cons (de_ix (de_v 1) (de_v 5)) da_nil))))))
    (dss_one (ds_set (i := 5) sc_edits.nd rfl (by first | exact Or.inl rfl | exact Or.inr rfl) (de_op (od_add true) (de_v 5) de_int)))))))))))))
    (dss_one (ds_ret (de_bT (cd_tup rfl) T.m_tuple (da_cons (de_v 3) da_nil))))))))) read
theorem c_is_edit {k : Nat} {TT : TT8} (T : Txt K mg) {sp_is_tuple : DS1} (c_is_tuple : Cal1 P w K TT mg base k "is_tuple" sp_is_tuple) {sp_is_whole : DS1} (c_is_whole : Cal1 P w K TT mg base k "is_whole" sp_is_whole) {sp : DS1} (read : ∀ ds M Q, sp ds M Q → ds.length = 1 ∧ r_is_edit sp_is_tuple sp_is_whole { nx := fun _ M' => Q .non M', rt := Q } (dstart N_is_edit ds) M) : Cal1 P w K TT mg base (k + 1) "is_edit" sp :=
  dcal1 T.h_is_edit sc_is_edit (t := r_is_edit sp_is_tuple sp_is_whole) (fun f cdv A outer s H E Y E1 hT hr gu g =>
    (dss_cons (ds_if (dt_w (dw_or (dt_not (dt_val (de_call1 (c_is_tuple.on hT) hr gu g.xt (da_cons (de_v 0) (da_cons (de_g T.g_PAIR) (da_cons (de_g T.g_TRIPLE) da_nil)))))) (dw_or (dt_not (dt_val (de_isi T.m_isinstance T.m_str (de_ix (de_v 0) de_int)))) (dw_or1 (dt_not (dt_val (de_call1 (c_is_whole.on hT) hr gu g.xt (da_cons (de_ix (de_v 0) de_int) da_nil)))))))) (dss_one (ds_ret de_bl)) dss_nil)
    (dss_cons (ds_if (dt_cmp (od_eq hr) (de_b cd_len T.m_len (da_cons (de_v 0) da_nil)) (de_g T.g_PAIR) (nomark _)) (dss_one (ds_ret (de_cmp (od_eq hr) (de_ix (de_v 0) de_int) (de_g T.g_OUT) (nomark _)))) dss_nil)
    (dss_one (ds_ret (de_and (de_cmp od_in (de_ix (de_v 0) de_int) (de_tup (da_cons (de_g T.g_IN) (da_cons (de_g T.g_TURN) da_nil))) (by with_unfolding_all rfl)) (de_and (de_isi T.m_isinstance T.m_str (de_ix (de_v 0) (de_g T.g_PAIR))) (de_one (de_cmp od_in (de_ix (de_v 0) (de_g T.g_PAIR)) (de_bT (cd_tup rfl) T.m_tuple (da_cons (de_g T.g_SIGNS) da_nil)) (by with_unfolding_all rfl)))))))))) read
theorem c_edited {k : Nat} {TT : TT8} (T : Txt K mg) {sp : DS1} (read : ∀ ds M Q, sp ds M Q → ds.length = 2 ∧ r_edited { nx := fun _ M' => Q .non M', rt := Q } (dstart N_edited ds) M) : Cal1 P w K TT mg base (k + 1) "edited" sp :=
  dcal1 T.h_edited sc_edited (t := r_edited) (fun f cdv A outer s H E Y E1 hT hr gu g =>
    (dss_cons (ds_par (i := 2) (j := 3) rfl sc_edited.nd rfl rfl (by decide) rfl rfl (da_cons (de_ix (de_v 1) de_int) (da_cons (de_ix (de_v 1) de_int) da_nil)))
    (dss_cons (ds_if (dt_w (dw_or (dt_not (dt_chain od_le od_le de_int (de_v 3) (de_b cd_len T.m_len (da_cons (de_v 0) da_nil)))) (dw_or1 (dt_w (dw_and (dt_cmp (od_ne hr) (de_v 2) (de_g T.g_IN) (nomark _)) (dw_and1 (dt_cmp (od_eq hr) (de_v 3) (de_b cd_len T.m_len (da_cons (de_v 0) da_nil)) (nomark _)))))))) (dss_one (ds_ret de_non)) dss_nil)
    (dss_cons (ds_if (dt_cmp (od_eq hr) (de_v 2) (de_g T.g_IN) (nomark _)) (dss_one (ds_ret (de_op (od_add true) (de_op (od_add true) (de_slice true (de_v 0) do_none (do_some (de_v 3))) (de_ix (de_v 1) (de_g T.g_PAIR))) (de_slice true (de_v 0) (do_some (de_v 3)) do_none)))) dss_nil)
    (dss_cons (ds_if (dt_cmp (od_eq hr) (de_v 2) (de_g T.g_OUT) (nomark _)) (dss_one (ds_ret (de_op (od_add true) (de_slice true (de_v 0) do_none (do_some (de_v 3))) (de_slice true (de_v 0) (do_some (de_op (od_add true) (de_v 3) de_int)) do_none)))) dss_nil)
    (dss_one (ds_ret (de_if (dt_cmp (od_ne hr) (de_ix (de_v 0) (de_v 3)) (de_ix (de_v 1) (de_g T.g_PAIR)) (nomark _)) (de_op (od_add true) (de_op (od_add true) (de_slice true (de_v 0) do_none (do_some (de_v 3))) (de_ix (de_v 1) (de_g T.g_PAIR))) (de_slice true (de_v 0) (do_some (de_op (od_add true) (de_v 3) de_int)) do_none)) de_non)))))))) read
theorem c_edited_by {k : Nat} {TT : TT8} (T : Txt K mg) (XE : Exs P w K mg base) (hk : 2 ≤ k) {sp_check_text : DSp} (c_check_text : Cal P w K TT mg base k "check_text" [] sp_check_text) {sp_is_tuple : DS1} (c_is_tuple : Cal1 P w K TT mg base k "is_tuple" sp_is_tuple) {sp_is_edit : DS1} (c_is_edit : Cal1 P w K TT mg base k "is_edit" sp_is_edit) {sp_edited : DS1} (c_edited : Cal1 P w K TT mg base k "edited" sp_edited) {sp : DSp} (read : ∀ ds M Q E, sp ds M Q E → ds.length = 2 ∧ r_edited_by E sp_check_text sp_is_tuple sp_is_edit sp_edited { nx := fun _ M' => Q .non M', rt := Q } (dstart N_edited_by ds) M) : Cal P w K TT mg base (k + 1) "edited_by" [] sp :=
  dcal T.h_edited_by sc_edited_by (t := fun E1 => r_edited_by E1 sp_check_text sp_is_tuple sp_is_edit sp_edited) (fun f cdv A outer s H E Y E1 hT hr gu g =>
    (dss_cons (ds_expr (de_callE (c_check_text.on hT) hr gu g (da_cons (de_v 0) da_nil)))
    (dss_cons (ds_if (dt_w (dw_or (dt_not (dt_val (de_call1 (c_is_tuple.on hT) hr gu g.xt (da_cons (de_v 1) (da_cons de_int (da_cons (de_g T.g_MOST_EDITS) da_nil)))))) (dw_or1 (dt_not (dt_val (de_b (cd_all rfl) T.m_all (da_cons (de_lc true (own := [("edit", 2)]) (g := (dgName 2)) (tt := dYes) (te := (dCall1 sp_is_edit (dCons (dSlot 2) dNil))) rfl sc_edited_by.nd (di_it (de_v 1)) (blkOk_by (own := [("edit", 2)]) (N := N_edited_by) (sc := defScope st_edited_by) (by decide +kernel)) (by decide) (fun _ _ _ _ _ => (dg_name (i := 2) sc_edited_by.nd rfl (by first | exact Or.inl rfl | exact Or.inr rfl))) (fun _ _ _ _ _ => dts_nil) (fun _ _ _ _ _ => (de_call1 (c_is_edit.on hT) hr gu g.xt (da_cons (de_v 2) da_nil)))) da_nil))))))) (dss_one (ds_raise XE.x_BadEdits (hr.mono hk) g rfl (de_v 1))) dss_nil)
    (dss_cons (ds_for (passes_of rfl) rfl (di_it (de_v 1)) (dg_name (i := 2) sc_edited_by.nd rfl (by first | exact Or.inl rfl | exact Or.inr rfl)) (dss_cons (ds_set (i := 0) sc_edited_by.nd rfl (by first | exact Or.inl rfl | exact Or.inr rfl) (de_call1 (c_edited.on hT) hr gu g.xt (da_cons (de_v 0) (da_cons (de_v 2) da_nil))))
    (dss_one (ds_if (dt_cmp od_is (de_v 0) de_non (nomark _)) (dss_one (ds_raise XE.x_BadEdits (hr.mono hk) g rfl (de_v 1))) dss_nil))))
    (dss_one (ds_ret (de_v 0))))))) read
theorem c__law_pot {k : Nat} {TT : TT8} (T : Txt K mg) {sp : DS1} (read : ∀ ds M Q, sp ds M Q → ds.length = 2 ∧ r__law_pot { nx := fun _ M' => Q .non M', rt := Q } (dstart N__law_pot ds) M) : Cal1 P w K TT mg base (k + 1) "_law_pot" sp :=
  dcal1 T.h__law_pot sc__law_pot (t := r__law_pot) (fun f cdv A outer s H E Y E1 hT hr gu g =>
    (dss_cons (ds_set (i := 2) sc__law_pot.nd rfl (by first | exact Or.inl rfl | exact Or.inr rfl) (de_if (dt_cmp od_lt (de_v 1) (de_b cd_len T.m_len (da_cons (de_v 0) da_nil)) (nomark _)) (de_ix (de_v 0) (de_v 1)) (de_op (od_add true) (de_op (od_add true) (de_op od_mod (de_b (cd_sum rfl) T.m_sum (da_cons (de_slice true (de_v 0) do_none (do_some de_int)) da_nil)) de_int) (de_op (od_mul true) de_int (de_v 1))) de_int)))
    (dss_cons (ds_set (i := 3) sc__law_pot.nd rfl (by first | exact Or.inl rfl | exact Or.inr rfl) (de_op (od_mul true) (de_op od_mod (de_bT cd_int T.m_int (da_cons (de_b cd_abs T.m_abs (da_cons (de_v 2) da_nil)) da_nil)) (de_op od_pows (de_op od_pows de_int de_int) de_int)) (de_bT cd_int T.m_int (da_cons (de_cmp od_ge (de_b cd_abs T.m_abs (da_cons (de_v 2) da_nil)) (de_op od_pows de_int de_int) (nomark _)) da_nil))))
    (dss_cons (ds_set (i := 4) sc__law_pot.nd rfl (by first | exact Or.inl rfl | exact Or.inr rfl) (de_op od_mod (de_bT cd_int T.m_int (da_cons (de_v 2) da_nil)) de_int))
    (dss_one (ds_ret (de_lst false (da_cons (de_v 3) (da_cons (de_op od_mod (de_bT cd_int T.m_int (da_cons (de_op (od_add true) (de_op (od_add true) (de_op (od_mul true) (de_v 4) de_int) (de_op (od_mul true) (de_op (od_mul true) de_int (de_v 1)) (de_v 1))) de_int) da_nil)) de_int) (da_cons de_int da_nil)))))))))) read
theorem c__law_take {k : Nat} {TT : TT8} (T : Txt K mg) {sp : DS1} (read : ∀ ds M Q, sp ds M Q → ds.length = 2 ∧ r__law_take { nx := fun _ M' => Q .non M', rt := Q } (dstart N__law_take ds) M) : Cal1 P w K TT mg base (k + 1) "_law_take" sp :=
  dcal1 T.h__law_take sc__law_take (t := r__law_take) (fun f cdv A outer s H E Y E1 hT hr gu g =>
    (dss_cons (ds_if (dt_cmp od_gt (de_ix (de_v 0) de_int) de_int (nomark _)) (dss_cons (ds_set (i := 4) sc__law_take.nd rfl (by first | exact Or.inl rfl | exact Or.inr rfl) (de_op od_mod (de_bT cd_int T.m_int (da_cons (de_ix (de_v 0) de_int) da_nil)) (de_v 1)))
    (dss_cons (ds_asg (de_op od_fdiv (de_ix (de_v 0) de_int) (de_v 1)) (dg_sub (de_v 0) de_int set_lstD))
    (dss_one (ds_ret (de_v 4))))) dss_nil)
    (dss_cons (ds_asg (de_op (od_add true) (de_ix (de_v 0) de_int) de_int) (dg_sub (de_v 0) de_int set_lstD))
    (dss_cons (ds_set (i := 2) sc__law_take.nd rfl (by first | exact Or.inl rfl | exact Or.inr rfl) (de_ix (de_lst true (da_cons de_int (da_cons de_int (da_cons de_int (da_cons de_int (da_cons de_int da_nil)))))) (de_op od_mod (de_bT cd_int T.m_int (da_cons (de_ix (de_v 0) de_int) da_nil)) de_int)))
    (dss_cons (ds_set (i := 3) sc__law_take.nd rfl (by first | exact Or.inl rfl | exact Or.inr rfl) (de_op od_mod (de_bT cd_int T.m_int (da_cons (de_op od_pows (de_bT cd_int T.m_int (da_cons (de_op (od_add true) (de_op (od_add true) (de_ix (de_v 0) de_int) (de_op (od_mul true) (de_op (od_mul true) de_int (de_ix (de_v 0) de_int)) (de_ix (de_v 0) de_int))) de_int) da_nil)) de_int) da_nil)) (de_v 2)))
    (dss_cons (ds_set (i := 3) sc__law_take.nd rfl (by first | exact Or.inl rfl | exact Or.inr rfl) (de_op od_mod (de_bT cd_int T.m_int (da_cons (de_op (od_mul true) (de_v 3) (de_op (od_add true) (de_op od_mod (de_bT cd_int T.m_int (da_cons (de_v 3) da_nil)) de_int) (de_op (od_mul true) de_int (de_ix (de_v 0) de_int)))) da_nil)) de_int))
    (dss_one (ds_ret (de_op od_mod (de_bT cd_int T.m_int (da_cons (de_op od_fdiv (de_v 3) de_int) da_nil)) (de_v 1)))))))))) read
theorem c__law_of {k : Nat} {TT : TT8} (T : Txt K mg) {sp__law_take : DS1} (c__law_take : Cal1 P w K TT mg base k "_law_take" sp__law_take) {sp : DS1} (read : ∀ ds M Q, sp ds M Q → ds.length = 2 ∧ r__law_of sp__law_take { nx := fun _ M' => Q .non M', rt := Q } (dstart N__law_of ds) M) : Cal1 P w K TT mg base (k + 1) "_law_of" sp :=
  dcal1 T.h__law_of sc__law_of (t := r__law_of sp__law_take) (fun f cdv A outer s H E Y E1 hT hr gu g =>
    (dss_one (ds_ret (de_ix (de_v 1) (de_call1 (c__law_take.on hT) hr gu g.xt (da_cons (de_v 0) (da_cons (de_b cd_len T.m_len (da_cons (de_v 1) da_nil)) da_nil))))))) read
theorem c__law_places {k : Nat} {TT : TT8} (T : Txt K mg) {sp : DS1} (read : ∀ ds M Q, sp ds M Q → ds.length = 2 ∧ r__law_places { nx := fun _ M' => Q .non M', rt := Q } (dstart N__law_places ds) M) : Cal1 P w K TT mg base (k + 1) "_law_places" sp :=
  dcal1 T.h__law_places sc__law_places (t := r__law_places) (fun f cdv A outer s H E Y E1 hT hr gu g =>
    (dss_one (ds_ret (de_listRg true T.m_list T.m_range (de_b (cd_max2 rfl) T.m_max (da_cons de_int (da_cons (de_b (cd_min2 rfl) T.m_min (da_cons (de_v 1) (da_cons (de_b cd_len T.m_len (da_cons (de_v 0) da_nil)) da_nil))) da_nil))))))) read
theorem c__law_odd {k : Nat} {TT : TT8} (T : Txt K mg) {sp__law_of : DS1} (c__law_of : Cal1 P w K TT mg base k "_law_of" sp__law_of) {sp : DS1} (read : ∀ ds M Q, sp ds M Q → ds.length = 1 ∧ r__law_odd sp__law_of { nx := fun _ M' => Q .non M', rt := Q } (dstart N__law_odd ds) M) : Cal1 P w K TT mg base (k + 1) "_law_odd" sp :=
  dcal1 T.h__law_odd sc__law_odd (t := r__law_odd sp__law_of) (fun f cdv A outer s H E Y E1 hT hr gu g =>
    (dss_cons (ds_set (i := 1) sc__law_odd.nd rfl (by first | exact Or.inl rfl | exact Or.inr rfl) (de_lst true (da_cons de_non (da_cons de_bl (da_cons de_bl (da_cons de_int (da_cons de_int (da_cons (de_neg de_int) (da_cons de_int (da_cons de_int (da_cons de_str (da_cons de_str (da_cons de_str (da_cons de_str (da_cons de_str (da_cons (de_tup da_nil) (da_cons (de_lst true da_nil) (da_cons (de_tup (da_cons de_int da_nil)) (da_cons (de_tup (da_cons (de_tup da_nil) da_nil)) (da_cons (de_lst true (da_cons de_int da_nil)) (da_cons (de_tup (da_cons de_str da_nil)) da_nil)))))))))))))))))))))
    (dss_cons (ds_set (i := 1) sc__law_odd.nd rfl (by first | exact Or.inl rfl | exact Or.inr rfl) (de_op (od_add true) (de_v 1) (de_lst true (da_cons (de_tup (da_cons de_str (da_cons de_str da_nil))) (da_cons (de_tup (da_cons de_str (da_cons (de_tup (da_cons de_str (da_cons de_str da_nil))) da_nil))) (da_cons (de_tup (da_cons de_non da_nil)) (da_cons (de_lst true (da_cons de_str da_nil)) (da_cons (de_op (od_mul true) de_str de_int) (da_cons de_str (da_cons (de_tup (da_cons de_str da_nil)) da_nil))))))))))
    (dss_one (ds_ret (de_call1 (c__law_of.on hT) hr gu g.xt (da_cons (de_v 0) (da_cons (de_v 1) da_nil)))))))) read
theorem c__law_bent {k : Nat} {TT : TT8} (T : Txt K mg) {sp__law_take : DS1} (c__law_take : Cal1 P w K TT mg base k "_law_take" sp__law_take) {sp__law_bent : DS1} (c__law_bent : Cal1 P w K TT mg base k "_law_bent" sp__law_bent) {sp__law_of : DS1} (c__law_of : Cal1 P w K TT mg base k "_law_of" sp__law_of) {sp__law_odd : DS1} (c__law_odd : Cal1 P w K TT mg base k "_law_odd" sp__law_odd) {sp : DS1} (read : ∀ ds M Q, sp ds M Q → ds.length = 2 ∧ r__law_bent sp__law_take sp__law_bent sp__law_of sp__law_odd { nx := fun _ M' => Q .non M', rt := Q } (dstart N__law_bent ds) M) : Cal1 P w K TT mg base (k + 1) "_law_bent" sp :=
  dcal1 T.h__law_bent sc__law_bent (t := r__law_bent sp__law_take sp__law_bent sp__law_of sp__law_odd) (fun f cdv A outer s H E Y E1 hT hr gu g =>
    (dss_cons (ds_if (dt_w (dw_and (dt_val (de_isi T.m_isinstance T.m_tuple (de_v 1))) (dw_and (dt_cmp (od_ne hr) (de_v 1) (de_tup da_nil) (nomark _)) (dw_and1 (dt_cmp od_gt (de_call1 (c__law_take.on hT) hr gu g.xt (da_cons (de_v 0) (da_cons de_int da_nil))) de_int (nomark _)))))) (dss_cons (ds_set (i := 2) sc__law_bent.nd rfl (by first | exact Or.inl rfl | exact Or.inr rfl) (de_call1 (c__law_take.on hT) hr gu g.xt (da_cons (de_v 0) (da_cons (de_b cd_len T.m_len (da_cons (de_v 1) da_nil)) da_nil))))
    (dss_one (ds_ret (de_op (od_add true) (de_op (od_add true) (de_slice true (de_v 1) do_none (do_some (de_v 2))) (de_tup (da_cons (de_call1 (c__law_bent.on hT) hr gu g.xt (da_cons (de_v 0) (da_cons (de_ix (de_v 1) (de_v 2)) da_nil))) da_nil))) (de_slice true (de_v 1) (do_some (de_op (od_add true) (de_v 2) de_int)) do_none))))) dss_nil)
    (dss_cons (ds_if (dt_val (de_isi T.m_isinstance T.m_tuple (de_v 1))) (dss_one (ds_ret (de_call1 (c__law_of.on hT) hr gu g.xt (da_cons (de_v 0) (da_cons (de_lst true (da_cons (de_bT (cd_list true) T.m_list (da_cons (de_v 1) da_nil)) (da_cons (de_slice true (de_v 1) (do_some de_int) do_none) (da_cons (de_slice true (de_v 1) do_none (do_some (de_neg de_int))) (da_cons (de_op (od_add true) (de_v 1) (de_slice true (de_v 1) (do_some (de_neg de_int)) do_none)) (da_cons (de_revS true (de_v 1)) (da_cons (de_tup da_nil) (da_cons de_non da_nil)))))))) da_nil))))) dss_nil)
    (dss_cons (ds_if (dt_val (de_isi T.m_isinstance T.m_bool (de_v 1))) (dss_one (ds_ret (de_call1 (c__law_of.on hT) hr gu g.xt (da_cons (de_v 0) (da_cons (de_lst true (da_cons (de_not (de_v 1)) (da_cons (de_bT cd_int T.m_int (da_cons (de_v 1) da_nil)) (da_cons de_non da_nil)))) da_nil))))) dss_nil)
    (dss_cons (ds_if (dt_val (de_isi T.m_isinstance T.m_int (de_v 1))) (dss_one (ds_ret (de_call1 (c__law_of.on hT) hr gu g.xt (da_cons (de_v 0) (da_cons (de_lst true (da_cons (de_op (od_add true) (de_v 1) de_int) (da_cons (de_op od_sub (de_v 1) de_int) (da_cons (de_neg (de_v 1)) (da_cons (de_bT cd_str T.m_str (da_cons (de_v 1) da_nil)) (da_cons de_non (da_cons (de_cmp (od_eq hr) (de_v 1) de_int (nomark _)) (da_cons (de_tup (da_cons (de_v 1) da_nil)) da_nil)))))))) da_nil))))) dss_nil)
    (dss_cons (ds_if (dt_val (de_isi T.m_isinstance T.m_str (de_v 1))) (dss_cons (ds_set (i := 3) sc__law_bent.nd rfl (by first | exact Or.inl rfl | exact Or.inr rfl) (de_lst true (da_cons (de_op (od_add true) (de_v 1) de_str) (da_cons (de_slice true (de_v 1) do_none (do_some (de_neg de_int))) (da_cons (de_upper (de_v 1)) (da_cons (de_lst true (da_cons (de_v 1) da_nil)) (da_cons de_str (da_cons de_non (da_cons de_int (da_cons de_str (da_cons (de_op (od_add true) de_str (de_v 1)) (da_cons (de_op (od_add true) (de_v 1) de_str) da_nil))))))))))))
    (dss_one (ds_ret (de_call1 (c__law_of.on hT) hr gu g.xt (da_cons (de_v 0) (da_cons (de_v 3) da_nil)))))) dss_nil)
    (dss_one (ds_ret (de_call1 (c__law_odd.on hT) hr gu g.xt (da_cons (de_v 0) da_nil)))))))))) read
theorem c__law_n_distance {k : Nat} {TT : TT8} (T : Txt K mg) {sp : DS1} (read : ∀ ds M Q, sp ds M Q → ds.length = 2 ∧ r__law_n_distance { nx := fun _ M' => Q .non M', rt := Q } (dstart N__law_n_distance ds) M) : Cal1 P w K TT mg base (k + 1) "_law_n_distance" sp :=
  dcal1 T.h__law_n_distance sc__law_n_distance (t := r__law_n_distance) (fun f cdv A outer s H E Y E1 hT hr gu g =>
    (dss_cons (ds_set (i := 2) sc__law_n_distance.nd rfl (by first | exact Or.inl rfl | exact Or.inr rfl) (de_listRg true T.m_list T.m_range (de_op (od_add true) (de_b cd_len T.m_len (da_cons (de_v 1) da_nil)) de_int)))
    (dss_cons (ds_for (passes_of rfl) rfl (di_enumS T.m_enumerate (de_v 0)) (dg_tup rfl (dgs_cons (dg_name (i := 3) sc__law_n_distance.nd rfl (by first | exact Or.inl rfl | exact Or.inr rfl)) (dgs_cons (dg_name (i := 4) sc__law_n_distance.nd rfl (by first | exact Or.inl rfl | exact Or.inr rfl)) dgs_nil))) (dss_cons (ds_set (i := 5) sc__law_n_distance.nd rfl (by first | exact Or.inl rfl | exact Or.inr rfl) (de_lst false (da_cons (de_op (od_add true) (de_v 3) de_int) da_nil)))
    (dss_cons (ds_for (passes_of rfl) rfl (di_enumS T.m_enumerate (de_v 1)) (dg_tup rfl (dgs_cons (dg_name (i := 6) sc__law_n_distance.nd rfl (by first | exact Or.inl rfl | exact Or.inr rfl)) (dgs_cons (dg_name (i := 7) sc__law_n_distance.nd rfl (by first | exact Or.inl rfl | exact Or.inr rfl)) dgs_nil))) (dss_one (ds_expr (de_append (de_v 5) (de_b (cd_min3 rfl) T.m_min (da_cons (de_op (od_add true) (de_ix (de_v 2) (de_v 6)) (de_bT cd_int T.m_int (da_cons (de_cmp (od_ne hr) (de_v 4) (de_v 7) (nomark _)) da_nil))) (da_cons (de_op (od_add true) (de_ix (de_v 2) (de_op (od_add true) (de_v 6) de_int)) de_int) (da_cons (de_op (od_add true) (de_ix (de_v 5) (de_v 6)) de_int) da_nil))))))))
    (dss_one (ds_set (i := 2) sc__law_n_distance.nd rfl (by first | exact Or.inl rfl | exact Or.inr rfl) (de_v 5))))))
    (dss_one (ds_ret (de_ix (de_v 2) (de_neg de_int))))))) read
theorem c__law_n_any {k : Nat} {TT : TT8} (T : Txt K mg) {sp__law_take : DS1} (c__law_take : Cal1 P w K TT mg base k "_law_take" sp__law_take) {sp__law_of : DS1} (c__law_of : Cal1 P w K TT mg base k "_law_of" sp__law_of) {sp : DS1} (read : ∀ ds M Q, sp ds M Q → ds.length = 3 ∧ r__law_n_any sp__law_take sp__law_of { nx := fun _ M' => Q .non M', rt := Q } (dstart N__law_n_any ds) M) : Cal1 P w K TT mg base (k + 1) "_law_n_any" sp :=
  dcal1 T.h__law_n_any sc__law_n_any (t := r__law_n_any sp__law_take sp__law_of) (fun f cdv A outer s H E Y E1 hT hr gu g =>
    (dss_one (ds_ret (de_join de_str (de_lc true (own := [("lap", 3)]) (g := (dgName 3)) (tt := dYes) (te := (dCall1 sp__law_of (dCons (dSlot 0) (dCons (dSlot 1) dNil)))) rfl sc__law_n_any.nd (di_range1 T.m_range (de_call1 (c__law_take.on hT) hr gu g.xt (da_cons (de_v 0) (da_cons (de_op (od_add true) (de_v 2) de_int) da_nil)))) (blkOk_by (own := [("lap", 3)]) (N := N__law_n_any) (sc := defScope st__law_n_any) (by decide +kernel)) (by decide) (fun _ _ _ _ _ => (dg_name (i := 3) sc__law_n_any.nd rfl (by first | exact Or.inl rfl | exact Or.inr rfl))) (fun _ _ _ _ _ => dts_nil) (fun _ _ _ _ _ => (de_call1 (c__law_of.on hT) hr gu g.xt (da_cons (de_v 0) (da_cons (de_v 1) da_nil))))))))) read
theorem c__law_signs_of_all {k : Nat} {TT : TT8} (T : Txt K mg) {sp : DS1} (read : ∀ ds M Q, sp ds M Q → ds.length = 0 ∧ r__law_signs_of_all { nx := fun _ M' => Q .non M', rt := Q } (dstart N__law_signs_of_all ds) M) : Cal1 P w K TT mg base (k + 1) "_law_signs_of_all" sp :=
  dcal1 T.h__law_signs_of_all sc__law_signs_of_all (t := r__law_signs_of_all) (fun f cdv A outer s H E Y E1 hT hr gu g =>
    (dss_one (ds_ret de_str))) read
theorem c__law_done {k : Nat} {TT : TT8} (T : Txt K mg) {sp__law_signs_of_all : DS1} (c__law_signs_of_all : Cal1 P w K TT mg base k "_law_signs_of_all" sp__law_signs_of_all) {sp : DS1} (read : ∀ ds M Q, sp ds M Q → ds.length = 2 ∧ r__law_done sp__law_signs_of_all { nx := fun _ M' => Q .non M', rt := Q } (dstart N__law_done ds) M) : Cal1 P w K TT mg base (k + 1) "_law_done" sp :=
  dcal1 T.h__law_done sc__law_done (t := r__law_done sp__law_signs_of_all) (fun f cdv A outer s H E Y E1 hT hr gu g =>
    (dss_cons (ds_if (dt_w (dw_or (dt_not (dt_val (de_isi T.m_isinstance T.m_tuple (de_v 1)))) (dw_or1 (dt_cmp od_gt (de_b cd_len T.m_len (da_cons (de_v 1) da_nil)) de_int (nomark _))))) (dss_one (ds_ret de_non)) dss_nil)
    (dss_cons (ds_for (passes_of rfl) rfl (di_it (de_v 1)) (dg_name (i := 2) sc__law_done.nd rfl (by first | exact Or.inl rfl | exact Or.inr rfl)) (dss_cons (ds_if (dt_w (dw_or (dt_not (dt_val (de_isi T.m_isinstance T.m_tuple (de_v 2)))) (dw_or (dt_cmp od_notIn (de_b cd_len T.m_len (da_cons (de_v 2) da_nil)) (de_tup (da_cons de_int (da_cons de_int da_nil))) (by with_unfolding_all rfl)) (dw_or1 (dt_not (dt_val (de_isi T.m_isinstance T.m_str (de_ix (de_v 2) de_int)))))))) (dss_one (ds_ret de_non)) dss_nil)
    (dss_cons (ds_if (dt_w (dw_or (dt_not (dt_val (de_isi T.m_isinstance T.m_int (de_ix (de_v 2) de_int)))) (dw_or (dt_val (de_isi T.m_isinstance T.m_bool (de_ix (de_v 2) de_int))) (dw_or1 (dt_cmp (od_ne hr) (de_cmp (od_eq hr) (de_ix (de_v 2) de_int) de_str (nomark _)) (de_cmp (od_eq hr) (de_b cd_len T.m_len (da_cons (de_v 2) da_nil)) de_int (nomark _)) (nomark _)))))) (dss_one (ds_ret de_non)) dss_nil)
    (dss_cons (ds_if (dt_cmp od_notIn (de_ix (de_v 2) de_int) (de_tup (da_cons de_str (da_cons de_str (da_cons de_str da_nil)))) (by with_unfolding_all rfl)) (dss_one (ds_ret de_non)) dss_nil)
    (dss_one (ds_if (dt_w (dw_and (dt_cmp (od_eq hr) (de_b cd_len T.m_len (da_cons (de_v 2) da_nil)) de_int (nomark _)) (dw_and1 (dt_w (dw_or (dt_not (dt_val (de_isi T.m_isinstance T.m_str (de_ix (de_v 2) de_int)))) (dw_or (dt_cmp (od_ne hr) (de_b cd_len T.m_len (da_cons (de_ix (de_v 2) de_int) da_nil)) de_int (nomark _)) (dw_or1 (dt_cmp od_notIn (de_ix (de_v 2) de_int) (de_call10 (c__law_signs_of_all.on hT) hr gu g.xt) (by with_unfolding_all rfl))))))))) (dss_one (ds_ret de_non)) dss_nil))))))
    (dss_cons (ds_for (passes_of rfl) rfl (di_it (de_v 1)) (dg_name (i := 2) sc__law_done.nd rfl (by first | exact Or.inl rfl | exact Or.inr rfl)) (dss_cons (ds_set (i := 3) sc__law_done.nd rfl (by first | exact Or.inl rfl | exact Or.inr rfl) (de_ix (de_v 2) de_int))
    (dss_cons (ds_if (dt_w (dw_or (dt_not (dt_chain od_le od_le de_int (de_v 3) (de_b cd_len T.m_len (da_cons (de_v 0) da_nil)))) (dw_or1 (dt_w (dw_and (dt_cmp (od_ne hr) (de_ix (de_v 2) de_int) de_str (nomark _)) (dw_and1 (dt_cmp (od_eq hr) (de_v 3) (de_b cd_len T.m_len (da_cons (de_v 0) da_nil)) (nomark _)))))))) (dss_one (ds_ret de_non)) dss_nil)
    (dss_cons (ds_if (dt_w (dw_and (dt_cmp (od_eq hr) (de_ix (de_v 2) de_int) de_str (nomark _)) (dw_and1 (dt_cmp (od_eq hr) (de_ix (de_v 0) (de_v 3)) (de_ix (de_v 2) de_int) (nomark _))))) (dss_one (ds_ret de_non)) dss_nil)
    (dss_cons (ds_set (i := 4) sc__law_done.nd rfl (by first | exact Or.inl rfl | exact Or.inr rfl) (de_if (dt_cmp (od_eq hr) (de_b cd_len T.m_len (da_cons (de_v 2) da_nil)) de_int (nomark _)) (de_ix (de_v 2) de_int) de_str))
    (dss_one (ds_set (i := 0) sc__law_done.nd rfl (by first | exact Or.inl rfl | exact Or.inr rfl) (de_op (od_add true) (de_op (od_add true) (de_slice true (de_v 0) do_none (do_some (de_v 3))) (de_v 4)) (de_slice true (de_v 0) (do_some (de_op (od_add true) (de_v 3) (de_if (dt_cmp (od_eq hr) (de_ix (de_v 2) de_int) de_str (nomark _)) de_int de_int))) do_none)))))))))
    (dss_one (ds_ret (de_v 0))))))) read
theorem c__law_is_done {k : Nat} {TT : TT8} (T : Txt K mg) {CS C_BadText C_BadEdits : Addr} (XK : Kns K mg CS C_BadText C_BadEdits) {sp_edited_by : DSp} (c_edited_by : Cal P w K TT mg base k "edited_by" [] sp_edited_by) {sp__law_done : DS1} (c__law_done : Cal1 P w K TT mg base k "_law_done" sp__law_done) {cc PP : Addr} (tb : LamX.TabB base mg cc PP) (inT : (PP, lamQ "_law_is_done") ∈ TT) (onlyT : ∀ p ∈ TT, p.1 = PP → p.2 = lamQ "_law_is_done") (hL : HasL K mg "_law_is_done" st__law_is_done ["text", "value"] cc) {sp : DS1} (read : ∀ ds M Q, sp ds M Q → ds.length = 2 ∧ r__law_is_done sp_edited_by sp__law_done { nx := fun _ M' => Q .non M', rt := Q } (dstart N__law_is_done ds) M) : Cal1 P w K TT mg base (k + 3) "_law_is_done" sp :=
  dcalL hL sc__law_is_done (t := fun _ => r__law_is_done sp_edited_by sp__law_done) (fun f A outer s H E Y E1 hT hr gu g =>
    (dss_cons (ds_asg (de_heard (X := cxOf (L2.CX P w) P w K mg base N__law_is_done "_law_is_done" (defScope st__law_is_done) f (.ref cc) A outer s H E) (Y := Y) (ok := kn) (td := fun E1 => (dCallE sp_edited_by (dCons (dSlot 0) (dCons (dSlot 1) dNil)) E1)) T.h__law_heard sc__law_heard (give_heard XK.mT) tb rfl (by rw [hT]; exact inT) (by rw [hT]; exact onlyT) XK.sub hr gu g.xt (LamX.lamS_by (sc := defScope st__law_is_done) (by decide +kernel)) (fun A outer s H E f c' Y' E1 hT' hr gu g => (de_callE (c_edited_by.on (hT'.trans hT)) hr gu g (da_cons (de_v 0) (da_cons (de_v 1) da_nil))))) (dg_tup rfl (dgs_cons (dg_name (i := 3) sc__law_is_done.nd rfl (by first | exact Or.inl rfl | exact Or.inr rfl)) (dgs_cons (dg_name (i := 4) sc__law_is_done.nd rfl (by first | exact Or.inl rfl | exact Or.inr rfl)) dgs_nil))))
    (dss_cons (ds_set (i := 2) sc__law_is_done.nd rfl (by first | exact Or.inl rfl | exact Or.inr rfl) (de_call1 ((c__law_done.mono (Nat.le_add_right _ 2)).on hT) hr gu g.xt (da_cons (de_v 0) (da_cons (de_v 1) da_nil))))
    (dss_cons (ds_if (dt_cmp od_is (de_v 2) de_non (nomark _)) (dss_one (ds_ret (de_and (de_isE XK.known XK.sub_BadEdits T.m_isinstance XK.m_BadEdits (de_v 3)) (de_one (de_cmp (od_eq hr) (de_b (cd_repr hr gu) T.m_repr (da_cons (de_excV XK.known (de_v 3)) da_nil)) (de_b (cd_repr hr gu) T.m_repr (da_cons (de_v 1) da_nil)) (nomark _)))))) dss_nil)
    (dss_one (ds_ret (de_and (de_cmp od_is (de_v 3) de_non (nomark _)) (de_one (de_cmp (od_eq hr) (de_b (cd_repr hr gu) T.m_repr (da_cons (de_v 4) da_nil)) (de_b (cd_repr hr gu) T.m_repr (da_cons (de_v 2) da_nil)) (nomark _)))))))))) (fun ds M Q E => read ds M Q)
theorem c__law_right {k : Nat} {TT : TT8} (T : Txt K mg) {sp__law_n_any : DS1} (c__law_n_any : Cal1 P w K TT mg base k "_law_n_any" sp__law_n_any) {sp__law_of : DS1} (c__law_of : Cal1 P w K TT mg base k "_law_of" sp__law_of) {sp__law_n_distance : DS1} (c__law_n_distance : Cal1 P w K TT mg base k "_law_n_distance" sp__law_n_distance) {sp_edits : DSp} (c_edits : Cal P w K TT mg base k "edits" [] sp_edits) {sp_distance : DSp} (c_distance : Cal P w K TT mg base k "distance" [] sp_distance) {sp__law_done : DS1} (c__law_done : Cal1 P w K TT mg base k "_law_done" sp__law_done) {sp_edited_by : DSp} (c_edited_by : Cal P w K TT mg base k "edited_by" [] sp_edited_by) {sp__law_bent : DS1} (c__law_bent : Cal1 P w K TT mg base k "_law_bent" sp__law_bent) {sp__law_take : DS1} (c__law_take : Cal1 P w K TT mg base k "_law_take" sp__law_take) {sp__law_is_done : DS1} (c__law_is_done : Cal1 P w K TT mg base k "_law_is_done" sp__law_is_done) {sp : DS1} (read : ∀ ds M Q, sp ds M Q → ds.length = 1 ∧ r__law_right sp__law_n_any sp__law_of sp__law_n_distance sp_edits sp_distance sp__law_done sp_edited_by sp__law_bent sp__law_take sp__law_is_done { nx := fun _ M' => Q .non M', rt := Q } (dstart N__law_right ds) M) : Cal1 P w K TT mg base (k + 1) "_law_right" sp :=
  dcal1 T.h__law_right sc__law_right (t := r__law_right sp__law_n_any sp__law_of sp__law_n_distance sp_edits sp_distance sp__law_done sp_edited_by sp__law_bent sp__law_take sp__law_is_done) (fun f cdv A outer s H E Y E1 hT hr gu g =>
    (dss_cons (ds_setLc (i := 1) true (own := [("lap", 5)]) (g := (dgName 5)) (tt := dYes) (te := (dCall1 sp__law_n_any (dCons (dSlot 0) (dCons (dCall1 sp__law_of (dCons (dSlot 0) (dCons (dLst true (dCons (dC (.str "ab")) (dCons (dC (.str "abc")) (dCons (dC (.str "a1 ;")) dNil)))) dNil))) (dCons (dC (.int 12)) dNil))))) rfl sc__law_right.nd rfl rfl (sw_true rfl rfl rfl (by decide +kernel)) (di_range1 T.m_range de_int) (blkOk_by (own := [("lap", 5)]) (N := N__law_right) (sc := defScope st__law_right) (by decide +kernel)) (by decide) (fun _ _ _ _ _ => (dg_name (i := 5) sc__law_right.nd rfl (by first | exact Or.inl rfl | exact Or.inr rfl))) (fun _ _ _ _ _ => dts_nil) (fun _ _ _ _ _ => (de_call1 (c__law_n_any.on hT) hr gu g.xt (da_cons (de_v 0) (da_cons (de_call1 (c__law_of.on hT) hr gu g.xt (da_cons (de_v 0) (da_cons (de_lst true (da_cons de_str (da_cons de_str (da_cons de_str da_nil)))) da_nil))) (da_cons de_int da_nil))))))
    (dss_cons (ds_set (i := 2) sc__law_right.nd rfl (by first | exact Or.inl rfl | exact Or.inr rfl) (de_call1 (c__law_n_any.on hT) hr gu g.xt (da_cons (de_v 0) (da_cons de_str (da_cons de_int da_nil)))))
    (dss_cons (ds_for (passes_of rfl) rfl (di_it (de_op (od_add true) (de_v 1) (de_lst true (da_cons (de_v 2) da_nil)))) (dg_name (i := 3) sc__law_right.nd rfl (by first | exact Or.inl rfl | exact Or.inr rfl)) (dss_one (ds_for (passes_of rfl) rfl (di_it (de_v 1)) (dg_name (i := 6) sc__law_right.nd rfl (by first | exact Or.inl rfl | exact Or.inr rfl)) (dss_cons (ds_set (i := 10) sc__law_right.nd rfl (by first | exact Or.inl rfl | exact Or.inr rfl) (de_call1 (c__law_n_distance.on hT) hr gu g.xt (da_cons (de_v 3) (da_cons (de_v 6) da_nil))))
    (dss_cons (ds_set (i := 11) sc__law_right.nd rfl (by first | exact Or.inl rfl | exact Or.inr rfl) (de_callE (c_edits.on hT) hr gu g.xt.none (da_cons (de_v 3) (da_cons (de_v 6) da_nil))))
    (dss_cons (ds_if (dt_w (dw_or (dt_cmp (od_ne hr) (de_b (cd_repr hr gu) T.m_repr (da_cons (de_callE (c_distance.on hT) hr gu g.xt.none (da_cons (de_v 3) (da_cons (de_v 6) da_nil))) da_nil)) (de_b (cd_repr hr gu) T.m_repr (da_cons (de_v 10) da_nil)) (nomark _)) (dw_or (dt_cmp (od_ne hr) (de_b cd_len T.m_len (da_cons (de_v 11) da_nil)) (de_v 10) (nomark _)) (dw_or1 (dt_cmp (od_ne hr) (de_call1 (c__law_done.on hT) hr gu g.xt (da_cons (de_v 3) (da_cons (de_v 11) da_nil))) (de_v 6) (nomark _)))))) (dss_one (ds_ret de_bl)) dss_nil)
    (dss_one (ds_if (dt_cmp (od_ne hr) (de_callE (c_edited_by.on hT) hr gu g.xt.none (da_cons (de_v 3) (da_cons (de_v 11) da_nil))) (de_v 6) (nomark _)) (dss_one (ds_ret de_bl)) dss_nil))))))))
    (dss_cons (ds_asg (de_v 1) (dg_lst rfl (dgs_cons (dg_name (i := 3) sc__law_right.nd rfl (by first | exact Or.inl rfl | exact Or.inr rfl)) (dgs_cons (dg_name (i := 6) sc__law_right.nd rfl (by first | exact Or.inl rfl | exact Or.inr rfl)) (dgs_cons (dg_name (i := 7) sc__law_right.nd rfl (by first | exact Or.inl rfl | exact Or.inr rfl)) dgs_nil)))))
    (dss_cons (ds_if (dt_cmp od_gt (de_callE (c_distance.on hT) hr gu g.xt.none (da_cons (de_v 3) (da_cons (de_v 7) da_nil))) (de_op (od_add true) (de_callE (c_distance.on hT) hr gu g.xt.none (da_cons (de_v 3) (da_cons (de_v 6) da_nil))) (de_callE (c_distance.on hT) hr gu g.xt.none (da_cons (de_v 6) (da_cons (de_v 7) da_nil)))) (nomark _)) (dss_one (ds_ret de_bl)) dss_nil)
    (dss_cons (ds_set (i := 4) sc__law_right.nd rfl (by first | exact Or.inl rfl | exact Or.inr rfl) (de_lst false (da_cons (de_tup da_nil) (da_cons de_non (da_cons (de_lst true da_nil) (da_cons de_str (da_cons (de_tup (da_cons (de_tup (da_cons de_str (da_cons de_int (da_cons de_str da_nil)))) da_nil)) (da_cons (de_tup (da_cons (de_tup (da_cons de_str (da_cons de_int da_nil))) da_nil)) (da_cons (de_tup (da_cons (de_tup (da_cons de_str (da_cons de_int (da_cons de_str da_nil)))) da_nil)) (da_cons (de_tup (da_cons (de_tup (da_cons de_str (da_cons (de_b cd_len T.m_len (da_cons (de_v 3) da_nil)) (da_cons de_str da_nil)))) da_nil)) da_nil))))))))))
    (dss_cons (ds_set (i := 4) sc__law_right.nd rfl (by first | exact Or.inl rfl | exact Or.inr rfl) (de_op (od_add false) (de_v 4) (de_lst true (da_cons (de_tup (da_cons (de_tup (da_cons de_str (da_cons (de_b cd_len T.m_len (da_cons (de_v 3) da_nil)) da_nil))) da_nil)) (da_cons (de_tup (da_cons (de_tup (da_cons de_str (da_cons (de_neg de_int) (da_cons de_str da_nil)))) da_nil)) (da_cons (de_tup (da_cons (de_tup (da_cons de_str (da_cons de_int (da_cons de_str da_nil)))) da_nil)) (da_cons (de_tup (da_cons (de_tup (da_cons de_str (da_cons de_int (da_cons de_str da_nil)))) da_nil)) da_nil)))))))
    (dss_cons (ds_expr (de_append (de_v 4) (de_tup (da_cons (de_tup (da_cons de_str (da_cons de_bl (da_cons de_str da_nil)))) da_nil))))
    (dss_cons (ds_set (i := 4) sc__law_right.nd rfl (by first | exact Or.inl rfl | exact Or.inr rfl) (de_op (od_add false) (de_v 4) (de_lst true (da_cons (de_tup (da_cons (de_tup (da_cons de_str (da_cons de_int (da_cons de_str da_nil)))) da_nil)) (da_cons (de_tup (da_cons (de_tup (da_cons de_str (da_cons de_int da_nil))) da_nil)) (da_cons (de_tup (da_cons (de_tup (da_cons de_str (da_cons de_int (da_cons de_str da_nil)))) da_nil)) (da_cons (de_op od_repT (de_tup (da_cons (de_tup (da_cons de_str (da_cons de_int (da_cons de_str da_nil)))) (da_cons (de_tup (da_cons de_str (da_cons de_int da_nil))) da_nil))) de_int) da_nil)))))))
    (dss_cons (ds_set (i := 4) sc__law_right.nd rfl (by first | exact Or.inl rfl | exact Or.inr rfl) (de_op (od_add false) (de_v 4) (de_lst true (da_cons (de_op od_repT (de_tup (da_cons (de_tup (da_cons de_str (da_cons de_int (da_cons de_str da_nil)))) (da_cons (de_tup (da_cons de_str (da_cons de_int da_nil))) da_nil))) de_int) da_nil))))
    (dss_cons (ds_expr (de_extend (de_v 4) (de_lc true (own := [("lap", 5)]) (g := (dgName 5)) (tt := dYes) (te := (dCall1 sp__law_bent (dCons (dSlot 0) (dCons (dCallE sp_edits (dCons (dSlot 3) (dCons (dSlot 6) dNil)) fun _ _ _ => False) dNil)))) rfl sc__law_right.nd (di_range1 T.m_range de_int) (blkOk_by (own := [("lap", 5)]) (N := N__law_right) (sc := defScope st__law_right) (by decide +kernel)) (by decide) (fun _ _ _ _ _ => (dg_name (i := 5) sc__law_right.nd rfl (by first | exact Or.inl rfl | exact Or.inr rfl))) (fun _ _ _ _ _ => dts_nil) (fun _ _ _ _ _ => (de_call1 (c__law_bent.on hT) hr gu g.xt (da_cons (de_v 0) (da_cons (de_callE (c_edits.on hT) hr gu g.xt.none (da_cons (de_v 3) (da_cons (de_v 6) da_nil))) da_nil)))))))
    (dss_cons (ds_for (passes_of rfl) rfl (di_range1 T.m_range de_int) (dg_name (i := 5) sc__law_right.nd rfl (by first | exact Or.inl rfl | exact Or.inr rfl)) (dss_cons (ds_set (i := 8) sc__law_right.nd rfl (by first | exact Or.inl rfl | exact Or.inr rfl) (de_lst false da_nil))
    (dss_cons (ds_for (passes_of rfl) rfl (di_range1 T.m_range (de_call1 (c__law_take.on hT) hr gu g.xt (da_cons (de_v 0) (da_cons de_int da_nil)))) (dg_name (i := 9) sc__law_right.nd rfl (by first | exact Or.inl rfl | exact Or.inr rfl)) (dss_cons (ds_set (i := 12) sc__law_right.nd rfl (by first | exact Or.inl rfl | exact Or.inr rfl) (de_call1 (c__law_of.on hT) hr gu g.xt (da_cons (de_v 0) (da_cons (de_lst true (da_cons de_str (da_cons de_str (da_cons de_str da_nil)))) da_nil))))
    (dss_cons (ds_set (i := 13) sc__law_right.nd rfl (by first | exact Or.inl rfl | exact Or.inr rfl) (de_call1 (c__law_take.on hT) hr gu g.xt (da_cons (de_v 0) (da_cons (de_op (od_add true) (de_b cd_len T.m_len (da_cons (de_v 3) da_nil)) de_int) da_nil))))
    (dss_one (ds_expr (de_append (de_v 8) (de_if (dt_cmp (od_eq hr) (de_v 12) de_str (nomark _)) (de_tup (da_cons (de_v 12) (da_cons (de_v 13) da_nil))) (de_tup (da_cons (de_v 12) (da_cons (de_v 13) (da_cons (de_call1 (c__law_of.on hT) hr gu g.xt (da_cons (de_v 0) (da_cons de_str da_nil))) da_nil)))))))))))
    (dss_one (ds_expr (de_append (de_v 4) (de_bT (cd_tup rfl) T.m_tuple (da_cons (de_v 8) da_nil))))))))
    (dss_one (ds_ret (de_b (cd_all rfl) T.m_all (da_cons (de_lc true (own := [("value", 14)]) (g := (dgName 14)) (tt := dYes) (te := (dCall1 sp__law_is_done (dCons (dSlot 3) (dCons (dSlot 14) dNil)))) rfl sc__law_right.nd (di_it (de_v 4)) (blkOk_by (own := [("value", 14)]) (N := N__law_right) (sc := defScope st__law_right) (by decide +kernel)) (by decide) (fun _ _ _ _ _ => (dg_name (i := 14) sc__law_right.nd rfl (by first | exact Or.inl rfl | exact Or.inr rfl))) (fun _ _ _ _ _ => dts_nil) (fun _ _ _ _ _ => (de_call1 (c__law_is_done.on hT) hr gu g.xt (da_cons (de_v 3) (da_cons (de_v 14) da_nil))))) da_nil))))))))))))))))) read
theorem c_law {k : Nat} {TT : TT8} (T : Txt K mg) {CS C_BadText C_BadEdits : Addr} (XK : Kns K mg CS C_BadText C_BadEdits) {f_edits : Addr} (g_edits : Glob K mg "edits" (.ref f_edits)) {f_distance : Addr} (g_distance : Glob K mg "distance" (.ref f_distance)) {S_call : Addr → DSp → Prop} (a_call : ∀ f sp, S_call f sp → CalA P w K TT mg base k f sp) {sp_edited_by : DSp} (c_edited_by : Cal P w K TT mg base k "edited_by" [] sp_edited_by) {sp__law_places : DS1} (c__law_places : Cal1 P w K TT mg base k "_law_places" sp__law_places) {sp__law_pot : DS1} (c__law_pot : Cal1 P w K TT mg base k "_law_pot" sp__law_pot) {sp__law_right : DS1} (c__law_right : Cal1 P w K TT mg base k "_law_right" sp__law_right) {sp_distance : DSp} (c_distance : Cal P w K TT mg base k "distance" [] sp_distance) {cc PP : Addr} (tb : LamX.TabB base mg cc PP) (inT : (PP, lamQ "law") ∈ TT) (onlyT : ∀ p ∈ TT, p.1 = PP → p.2 = lamQ "law") {sp : DS1} {f : Addr} {oc : Value} {od : Option Addr} {dV kV doc pm : Value} {an : Option Addr} {ct : Value} {osl : Array (Option Value)} (lk : K.lookup f = some ⟨oc, od, .func (PySem.W.fnOf "law" "law" (defArgs st_law) (defBody st_law) (defScope st_law) dV kV doc pm an (.ref cc) ct), osl⟩) (hcd : PySem.W.codeIn K (.ref cc) "law" = true) (read : ∀ ds M Q, sp ds M Q → ds.length = 1 ∧ r_law f_edits f_distance S_call sp_edited_by sp__law_places sp__law_pot sp__law_right sp_distance { nx := fun _ M' => Q .non M', rt := Q } (dstart N_law ds) M) : GnOk P w K mg base (L2.CX P w) (k + 3) f (PySem.W.fnOf "law" "law" (defArgs st_law) (defBody st_law) (defScope st_law) dV kV doc pm an (.ref cc) ct) ["script"] (lift K TT (quiet sp)) :=
  dgnL lk hcd sc_law (t := fun _ => r_law f_edits f_distance S_call sp_edited_by sp__law_places sp__law_pot sp__law_right sp_distance) (fun A outer s H E Y E1 hT hr gu g =>
    (dss_cons (ds_for (passes_of rfl) rfl (di_it (de_tup (da_cons de_non (da_cons de_int (da_cons de_str (da_cons (de_op (od_mul true) de_str de_int) (da_cons (de_lst true (da_cons de_str da_nil)) (da_cons de_bl da_nil)))))))) (dg_name (i := 1) sc_law.nd rfl (by first | exact Or.inl rfl | exact Or.inr rfl)) (dss_cons (ds_for (passes_of rfl) rfl (di_it (de_tup (da_cons (de_g g_distance) (da_cons (de_g g_edits) da_nil)))) (dg_name (i := 3) sc_law.nd rfl (by first | exact Or.inl rfl | exact Or.inr rfl)) (dss_cons (ds_asg (de_heard (X := cxOf (L2.CX P w) P w K mg base N_law "law" (defScope st_law) f (.ref cc) A outer s H E) (Y := Y) (ok := kn) (td := fun E1 => (dCallV 3 S_call (dCons (dSlot 1) (dCons (dC .non) dNil)) E1)) T.h__law_heard sc__law_heard (give_heard XK.mT) tb rfl (by rw [hT]; exact inT) (by rw [hT]; exact onlyT) XK.sub hr gu g.xt (LamX.lamS_by (sc := defScope st_law) (by decide +kernel)) (fun A outer s H E f c' Y' E1 hT' hr gu g => (de_callV (i := 3) (fun f sp h => (a_call f sp h).on (hT'.trans hT)) hr gu g (da_cons (de_v 1) (da_cons de_non da_nil))))) (dg_tup rfl (dgs_cons (dg_name (i := 5) sc_law.nd rfl (by first | exact Or.inl rfl | exact Or.inr rfl)) (dgs_cons (dg_name (i := 6) sc_law.nd rfl (by first | exact Or.inl rfl | exact Or.inr rfl)) dgs_nil))))
    (dss_cons (ds_asg (de_heard (X := cxOf (L2.CX P w) P w K mg base N_law "law" (defScope st_law) f (.ref cc) A outer s H E) (Y := Y) (ok := kn) (td := fun E1 => (dCallV 3 S_call (dCons (dC (.str "")) (dCons (dSlot 1) dNil)) E1)) T.h__law_heard sc__law_heard (give_heard XK.mT) tb rfl (by rw [hT]; exact inT) (by rw [hT]; exact onlyT) XK.sub hr gu g.xt (LamX.lamS_by (sc := defScope st_law) (by decide +kernel)) (fun A outer s H E f c' Y' E1 hT' hr gu g => (de_callV (i := 3) (fun f sp h => (a_call f sp h).on (hT'.trans hT)) hr gu g (da_cons de_str (da_cons (de_v 1) da_nil))))) (dg_tup rfl (dgs_cons (dg_name (i := 7) sc_law.nd rfl (by first | exact Or.inl rfl | exact Or.inr rfl)) (dgs_cons (dg_name (i := 6) sc_law.nd rfl (by first | exact Or.inl rfl | exact Or.inr rfl)) dgs_nil))))
    (dss_one (ds_if (dt_w (dw_or (dt_not (dt_val (de_isE XK.known XK.sub_BadText T.m_isinstance XK.m_BadText (de_v 5)))) (dw_or (dt_not (dt_val (de_isE XK.known XK.sub_BadText T.m_isinstance XK.m_BadText (de_v 7)))) (dw_or1 (dt_cmp (od_ne hr) (de_b (cd_repr hr gu) T.m_repr (da_cons (de_excV XK.known (de_v 7)) da_nil)) (de_b (cd_repr hr gu) T.m_repr (da_cons (de_v 1) da_nil)) (nomark _)))))) (dss_one (ds_ret de_bl)) dss_nil)))))
    (dss_cons (ds_asg (de_heard (X := cxOf (L2.CX P w) P w K mg base N_law "law" (defScope st_law) f (.ref cc) A outer s H E) (Y := Y) (ok := kn) (td := fun E1 => (dCallE sp_edited_by (dCons (dSlot 1) (dCons (dC .non) dNil)) E1)) T.h__law_heard sc__law_heard (give_heard XK.mT) tb rfl (by rw [hT]; exact inT) (by rw [hT]; exact onlyT) XK.sub hr gu g.xt (LamX.lamS_by (sc := defScope st_law) (by decide +kernel)) (fun A outer s H E f c' Y' E1 hT' hr gu g => (de_callE (c_edited_by.on (hT'.trans hT)) hr gu g (da_cons (de_v 1) (da_cons de_non da_nil))))) (dg_tup rfl (dgs_cons (dg_name (i := 5) sc_law.nd rfl (by first | exact Or.inl rfl | exact Or.inr rfl)) (dgs_cons (dg_name (i := 6) sc_law.nd rfl (by first | exact Or.inl rfl | exact Or.inr rfl)) dgs_nil))))
    (dss_one (ds_if (dt_w (dw_or (dt_not (dt_val (de_isE XK.known XK.sub_BadText T.m_isinstance XK.m_BadText (de_v 5)))) (dw_or1 (dt_cmp (od_ne hr) (de_b (cd_repr hr gu) T.m_repr (da_cons (de_excV XK.known (de_v 5)) da_nil)) (de_b (cd_repr hr gu) T.m_repr (da_cons (de_v 1) da_nil)) (nomark _))))) (dss_one (ds_ret de_bl)) dss_nil)))))
    (dss_cons (ds_for (passes_of rfl) rfl (di_it (de_call1 ((c__law_places.mono (Nat.le_add_right _ 2)).on hT) hr gu g.xt (da_cons (de_v 0) (da_cons de_int da_nil)))) (dg_name (i := 2) sc_law.nd rfl (by first | exact Or.inl rfl | exact Or.inr rfl)) (dss_cons (ds_set (i := 4) sc_law.nd rfl (by first | exact Or.inl rfl | exact Or.inr rfl) (de_call1 ((c__law_pot.mono (Nat.le_add_right _ 2)).on hT) hr gu g.xt (da_cons (de_v 0) (da_cons (de_v 2) da_nil))))
    (dss_one (ds_if (dt_not (dt_val (de_b (cd_all rfl) T.m_all (da_cons (de_lc true (own := [("lap", 8)]) (g := (dgName 8)) (tt := dYes) (te := (dCall1 sp__law_right (dCons (dSlot 4) dNil))) rfl sc_law.nd (di_range1 T.m_range de_int) (blkOk_by (own := [("lap", 8)]) (N := N_law) (sc := defScope st_law) (by decide +kernel)) (by decide) (fun _ _ _ _ _ => (dg_name (i := 8) sc_law.nd rfl (by first | exact Or.inl rfl | exact Or.inr rfl))) (fun _ _ _ _ _ => dts_nil) (fun _ _ _ _ _ => (de_call1 ((c__law_right.mono (Nat.le_add_right _ 2)).on hT) hr gu g.xt (da_cons (de_v 4) da_nil)))) da_nil)))) (dss_one (ds_ret de_bl)) dss_nil))))
    (dss_one (ds_ret (de_cmp (od_eq hr) (de_callE ((c_distance.mono (Nat.le_add_right _ 2)).on hT) hr gu g.xt.none (da_cons de_str (da_cons de_str da_nil))) de_int (nomark _))))))) (fun ds M Q E => read ds M Q)
end
end K83

set_option maxHeartbeats 4000000
/-! K83b: the draws. -/
namespace K83
open PySem PySem.Spec DL KB
open L2 (atI ixN)
open PyProof.Rows hiding St signs
def sp_take : DS1 := fun ds M Q => ∃ a u c, ds = [.ref a, .int u] ∧ Pot M a c ∧ c ≤ 100000 ∧ 0 < u ∧ u < 1000000 ∧ ∀ d M', 0 ≤ d → d < u → Dr M a M' (c + 1) → Q (.int d) M'
theorem rd_take : ∀ ds M Q, sp_take ds M Q → ds.length = 2 ∧ r__law_take { nx := fun _ M' => Q .non M', rt := Q } (dstart N__law_take ds) M := by
  rintro _ M Q ⟨a, u, c, rfl, ⟨own, mix, cnt, e, h1, h2, h3, h4, h5⟩, hc, hu, hu2, q⟩
  refine ⟨rfl, ?_⟩
  unfold r__law_take
  have hix : ∀ {M : Mp} {a : Addr} {xs : List DL.D} {i : Int} {d : DL.D} {Q : DK}, M a = some (.lst xs) → atI xs i = some d → Q d M → DL.rIxD (.ref a) (.int i) M Q := ix_ref
  have hil : ∀ {M : Mp} {xs : List DL.D} {i : Int} {d : DL.D} {Q : DK}, atI xs i = some d → Q d M → DL.rIxD (.lst xs) (.int i) M Q := fun h q => ⟨_, _, rfl, h, q⟩
  have hmul : ∀ {i j : Int} {M : Mp} {Q : DK}, i.natAbs < 2 ^ 64 → j.natAbs < 2 ^ 64 → Q (.int (i * j)) M → rMulD true (.int i) (.int j) M Q := mul_ok
  have hadd : ∀ {i j : Int} {M : Mp} {Q : DK}, Q (.int (i + j)) M → rAddD true (.int i) (.int j) M Q := fun q => q
  have hint : ∀ {i : Int} {M : Mp} {Q : DK}, Q (.int i) M → rIntD [.int i] M Q := fun q => q
  have hs0 : ∀ {x y z v : DL.D} {M : Mp} {a : Addr}, M a = some (.lst [x, y, z]) → ∀ {Q : Mp → Prop}, Q (mu M a (.lst [v, y, z])) → rSetD (.ref a) (.int 0) v M Q := set0
  have hs2 : ∀ {x y z v : DL.D} {M : Mp} {a : Addr}, M a = some (.lst [x, y, z]) → ∀ {Q : Mp → Prop}, Q (mu M a (.lst [x, y, v])) → rSetD (.ref a) (.int 2) v M Q := set2
  generalize DL.rIxD = R at hix hil ⊢
  generalize rMulD true = Rm at hmul ⊢
  generalize rAddD true = Ra at hadd ⊢
  generalize rIntD = Ri at hint ⊢
  generalize rSetD = Rs at hs0 hs2 ⊢
  refine ⟨_, rfl, hix e at3_0 ⟨_, _, rfl, rfl, trivial, _, rfl, ?_⟩⟩
  by_cases ho : 0 < own
  · rw [decide_eq_true ho]
    refine ⟨_, rfl, hix e at3_0 (hint ⟨_, rfl, _, _, rfl, rfl, hu, ?_⟩)⟩
    refine ⟨_, rfl, hix e at3_0 ⟨_, rfl, _, _, rfl, rfl, ⟨hu, by omega⟩, ?_⟩⟩
    refine ⟨_, rfl, hs0 e ⟨_, rfl, ?_⟩⟩
    refine q _ _ (Int.emod_nonneg _ (by omega)) (Int.emod_lt_of_pos _ hu) ⟨⟨_, mix, cnt, mu_same, Int.ediv_nonneg h1 (by omega), h2, h3, h4, by omega⟩, fun b hb => mu_ne hb⟩
  · rw [decide_eq_false ho]
    refine ⟨_, rfl, hix e at3_2 (hadd ⟨_, rfl, hs2 e ?_⟩)⟩
    have e2 : mu M a (.lst [.int own, .int mix, .int (cnt + 1)]) a = some (.lst [.int own, .int mix, .int (cnt + 1)]) := mu_same
    refine ⟨small (by simp), ?_⟩
    refine ⟨_, rfl, hix e2 at3_2 (hint ⟨_, _, rfl, rfl, (by decide : (0 : Int) < 5), ?_⟩)⟩
    obtain ⟨p, hp, p0, p1⟩ := primes (m := (cnt + 1) % 5) (Int.emod_nonneg _ (by decide)) (Int.emod_lt_of_pos _ (by decide))
    refine hil hp ?_
    have sq : (cnt + 1) * (cnt + 1) ≤ 100001 * 100001 := Int.mul_le_mul (by omega) (by omega) (by omega) (by decide)
    have sq0 : 0 ≤ (cnt + 1) * (cnt + 1) := Int.mul_nonneg (by omega) (by omega)
    have as1 : 92003 * (cnt + 1) * (cnt + 1) = 92003 * ((cnt + 1) * (cnt + 1)) := Int.mul_assoc _ _ _
    refine ⟨_, rfl, hix e2 at3_1 ⟨_, rfl, hix e2 at3_2 (hmul (by decide) (by omega) ⟨_, rfl, hix e2 at3_2 (hmul (by omega) (by omega) (hadd (hadd (hint ?_))))⟩)⟩⟩
    refine ⟨_, _, rfl, rfl, .inl ⟨by decide, by decide, ?_⟩, hint ?_⟩
    · rw [as1]
      omega
    refine ⟨_, rfl, _, _, rfl, rfl, p0, ?_⟩
    have b0 := Int.emod_nonneg ((mix + 92003 * (cnt + 1) * (cnt + 1) + 638) ^ (3 : Int).toNat) (b := p) (by omega)
    have b1 := Int.emod_lt_of_pos ((mix + 92003 * (cnt + 1) * (cnt + 1) + 638) ^ (3 : Int).toNat) p0
    refine ⟨_, rfl, _, rfl, hint ⟨_, _, rfl, rfl, (by decide : (0 : Int) < 10259), ?_⟩⟩
    refine ⟨_, rfl, hix e2 at3_2 (hmul (by decide) (by omega) (hadd (hmul (by omega) ?_ (hint ⟨_, _, rfl, rfl, (by decide : (0 : Int) < 2305843009213693907), ?_⟩))))⟩
    · omega
    · refine ⟨_, rfl, _, _, rfl, rfl, ⟨(by decide : (0 : Int) < 152), (by decide : (152 : Int).natAbs < 2 ^ 64)⟩, hint ⟨_, rfl, _, _, rfl, rfl, hu, ?_⟩⟩
      refine q _ _ (Int.emod_nonneg _ (by omega)) (Int.emod_lt_of_pos _ hu) ⟨⟨own, mix, cnt + 1, mu_same, h1, h2, h3, by omega, by omega⟩, fun b hb => mu_ne hb⟩
def sp_of : DS1 := fun ds M Q => ∃ a o c, ds = [.ref a, o] ∧ Pot M a c ∧ c ≤ 100000 ∧
  ((∃ xs, o = .lst xs ∧ 0 < xs.length ∧ xs.length < 1000000 ∧ ∀ d ∈ xs, ∀ M', Dr M a M' (c + 1) → Q d M') ∨
   ∃ x : Str, o = .str x ∧ 0 < x.cps.size ∧ x.cps.size ≤ 100000 ∧ ∀ ch ∈ x.cps.toList, ∀ M', Dr M a M' (c + 1) → Q (.str (sg ch)) M')
theorem rd_of : ∀ ds M Q, sp_of ds M Q → ds.length = 2 ∧ r__law_of sp_take { nx := fun _ M' => Q .non M', rt := Q } (dstart N__law_of ds) M := by
  rintro _ M Q ⟨a, o, c, rfl, p, hc, h⟩
  refine ⟨rfl, ?_⟩
  rcases h with ⟨xs, rfl, l0, l1, q⟩ | ⟨x, rfl, l0, l1, q⟩
  · refine ⟨_, rfl, _, rfl, _, rfl, xs, rfl, a, _, c, rfl, p, hc, by omega, by omega, fun d M' h0 h1 dr => ?_⟩
    obtain ⟨y, hy, e⟩ := at_in h0 h1
    exact ⟨xs, y, rfl, e, q y hy M' dr⟩
  · have sz : x.length = x.cps.size := rfl
    refine ⟨_, rfl, _, rfl, _, rfl, small l1, a, _, c, rfl, p, hc, by omega, by omega, fun d M' h0 h1 dr => ?_⟩
    obtain ⟨y, hy, e⟩ := at_in (xs := x.cps.toList) h0 (by rw [Array.length_toList]; omega)
    exact ⟨small l1, y, e, q y hy M' dr⟩
def oddL : List DL.D := [.non, .bl true, .bl false, .int 0, .int 1, .int (-1), .int 2, .int 44, .str "", .str "a", .str "A", .str "text", .str "copy", .tup [], .lst [], .tup [.int 0], .tup [.tup []], .lst [.int 0], .tup [.str "a"],
  .tup [.str "text", .str "a"], .tup [.str "copy", .tup [.str "text", .str "a"]], .tup [.non], .lst [.str "a"], .str (repS "a" 401), .str "/", .tup [.str "none"]]
theorem odd_fair : ∀ d ∈ oddL, fairB d = true := by decide +kernel
def sp_odd : DS1 := fun ds M Q => ∃ (a : Addr) (c : Nat), ds = [.ref a] ∧ Pot M a c ∧ c + 1 ≤ 100000 ∧ ∀ v M2, gd v = true → dep v ≤ 5 → wt v ≤ 1000 → Dr M a M2 (c + 1) → Q v M2
theorem rd_odd : ∀ ds M Q, sp_odd ds M Q → ds.length = 1 ∧ r__law_odd sp_of { nx := fun _ M' => Q .non M', rt := Q } (dstart N__law_odd ds) M := by
  rintro _ M Q ⟨a, c, rfl, p, hc, q⟩
  refine ⟨rfl, ?_⟩
  refine ⟨1, rfl, small (by simp), small (by simp), newTr ⟨small (by simp), small (by simp), small (by simp), small (by simp), newTr ⟨small (by simp), small (by simp), newTr ?_⟩⟩⟩
  refine ⟨_, rfl, small (by simp), small (by simp), small (by simp), small (by simp), small (by simp), newTr ⟨by decide, by decide, by decide, small (by simp), small (by simp), newTr ?_⟩⟩
  refine ⟨_, _, rfl, rfl, small (by simp), newTr ?_⟩
  refine ⟨_, rfl, _, rfl, a, _, c, rfl, p, by omega, .inl ⟨_, rfl, by simp, by simp, fun d hd M' dr => ?_⟩⟩
  obtain ⟨h1, h2, h3⟩ := fairB_iff.mp (odd_fair d hd)
  exact q d M' h1 h2 h3 dr

def sp_places : DS1 := fun ds M Q => ∃ ns : List Int, ds = [.slst (ns.map D.int), .int 3] ∧ ns.length ≤ 100000 ∧ ∀ n : Nat, n ≤ 3 → Q (.lst (rgD 0 n)) M
theorem rd_places : ∀ ds M Q, sp_places ds M Q → ds.length = 2 ∧ r__law_places { nx := fun _ M' => Q .non M', rt := Q } (dstart N__law_places ds) M := by
  rintro _ M Q ⟨ns, rfl, ln, q⟩
  refine ⟨rfl, ?_⟩
  refine ⟨_, rfl, _, rfl, _, rfl, _, _, rfl, _, _, rfl, _, rfl, ?_, ?_, newTr (q _ ?_)⟩
  all_goals
    rw [List.length_map]
    split <;> split <;> omega
def sp_pot : DS1 := fun ds M Q => ∃ (ns : List Int) (k : Nat), ds = [.slst (ns.map D.int), .int (k : Nat)] ∧ ns.length ≤ 100000 ∧ k ≤ 10 ∧ ∀ a M', M a = none → Pot M' a 0 → Q (.ref a) M'
theorem pot_cell {ns : List Int} {k : Nat} (ln : ns.length ≤ 100000) (hk : k ≤ 10) {M : Mp} (Q : DK) (q : ∀ cell : Int, Q (.int cell) M) :
    dIf (dB (dOp DL.rLtD (dSlot 1) (dCB DL.rLen (dCons (dSlot 0) dNil)))) (dOp DL.rIxD (dSlot 0) (dSlot 1)) (dOp (rAddD true) (dOp (rAddD true) (dOp (rInt (fun _ j => 0 < j) fun i j => .int (i % j)) (dCB rSumD (dCons (dSl true (dSlot 0) dNoPart (dPart (dC (.int 1)))) dNil)) (dC (.int 1000003))) (dOp (rMulD true) (dC (.int 6947)) (dSlot 1))) (dC (.int 431)))
      [some (.slst (ns.map D.int)), some (.int (k : Nat)), none, none, none] M Q := by
  refine ⟨_, rfl, _, rfl, _, rfl, decide ((k : Int) < ((ns.map D.int).length : Int)), rfl, ?_⟩
  by_cases h : (k : Int) < ((ns.map D.int).length : Int)
  · rw [decide_eq_true h]
    obtain ⟨y, hy, e⟩ := at_in (xs := ns.map D.int) (d := (k : Int)) (by omega) h
    obtain ⟨cell, _, rfl⟩ := List.mem_map.mp hy
    exact ⟨_, rfl, _, rfl, _, _, rfl, e, q cell⟩
  · rw [decide_eq_false h]
    refine ⟨_, rfl, 1, rfl, _, rfl, newTr ⟨_, ns.take 1, rfl, ?_, _, _, rfl, rfl, (by decide : (0 : Int) < 1000003), _, rfl, mul_ok (by decide) (by omega) (q _)⟩⟩
    show some (DL.cutD (ns.map D.int) none (some ((1 : Nat) : Int))) = _
    rw [cut_to, List.map_take]

theorem rd_pot : ∀ ds M Q, sp_pot ds M Q → ds.length = 2 ∧ r__law_pot { nx := fun _ M' => Q .non M', rt := Q } (dstart N__law_pot ds) M := by
  rintro _ M Q ⟨ns, k, rfl, ln, hk, q⟩
  refine ⟨rfl, ?_⟩
  refine pot_cell ln hk _ fun cell => ?_
  have hmul : ∀ {i j : Int} {M : Mp} {Q : DK}, i.natAbs < 2 ^ 64 → j.natAbs < 2 ^ 64 → Q (.int (i * j)) M → rMulD true (.int i) (.int j) M Q := mul_ok
  have hmulW : ∀ {i j : Int} {M : Mp} {Q : DK}, i.natAbs < 2 ^ 1000 → j.natAbs < 2 ^ 64 → Q (.int (i * j)) M → rMulD true (.int i) (.int j) M Q := fun h1 h2 q => ⟨⟨1000, 64, h1, h2, by decide⟩, q⟩
  have hadd : ∀ {i j : Int} {M : Mp} {Q : DK}, Q (.int (i + j)) M → rAddD true (.int i) (.int j) M Q := fun q => q
  have hint : ∀ {i : Int} {M : Mp} {Q : DK}, Q (.int i) M → rIntD [.int i] M Q := fun q => q
  have hbl : ∀ {b : Bool} {M : Mp} {Q : DK}, Q (.int (if b = true then 1 else 0)) M → rIntD [.bl b] M Q := fun q => q
  have habs : ∀ {i : Int} {M : Mp} {Q : DK}, Q (.int (if i < 0 then -i else i)) M → rAbsD [.int i] M Q := fun q => ⟨_, rfl, q⟩
  have hp1 : ∀ {M : Mp} {Q : DK}, Q (.int ((10 : Int) ^ (60 : Int).toNat)) M → rPowD (.int 10) (.int 60) M Q := fun q => ⟨_, _, rfl, rfl, .inl ⟨by decide, by decide, by decide⟩, q⟩
  have hp2 : ∀ {M : Mp} {Q : DK}, Q (.int PW) M → rPowD (.int ((10 : Int) ^ (60 : Int).toNat)) (.int 5) M Q := fun q => ⟨_, _, rfl, rfl, .inr bits60, q⟩
  have hp3 : ∀ {M : Mp} {Q : DK}, Q (.int ((10 : Int) ^ (18 : Int).toNat)) M → rPowD (.int 10) (.int 18) M Q := fun q => ⟨_, _, rfl, rfl, .inl ⟨by decide, by decide, by decide⟩, q⟩
  have own : ∀ b : Bool, 0 ≤ ((if cell < 0 then -cell else cell) % PW) * (if b = true then 1 else 0) := fun b => by
    refine Int.mul_nonneg (Int.emod_nonneg _ (by have := PW_pos; omega)) ?_
    cases b <;> decide
  have own2 : ((if cell < 0 then -cell else cell) % PW).natAbs < 2 ^ 1000 := by
    have h0 := Int.emod_nonneg (if cell < 0 then -cell else cell) (b := PW) (by have := PW_pos; omega)
    have h1 := Int.emod_lt_of_pos (if cell < 0 then -cell else cell) PW_pos
    have h2 := PW_lt
    generalize (if cell < 0 then -cell else cell) % PW = z at h0 h1
    have h3 : z < 2 ^ 1000 := Int.lt_trans h1 h2
    have h4 : ((z.natAbs : Nat) : Int) = z := Int.natAbs_of_nonneg h0
    have h5 : ((z.natAbs : Nat) : Int) < ((2 ^ 1000 : Nat) : Int) := by rw [h4]; exact h3
    exact Int.ofNat_lt.mp h5
  have one : ∀ b : Bool, (if b = true then (1 : Int) else 0).natAbs < 2 ^ 64 := fun b => by cases b <;> decide
  have PWp := PW_pos
  generalize PW = W at hp2 own own2 PWp
  generalize rMulD true = Rm at hmul hmulW ⊢
  generalize rAddD true = Ra at hadd ⊢
  generalize rIntD = Ri at hint hbl ⊢
  generalize rAbsD = Rb at habs ⊢
  generalize rPowD = Rp at hp1 hp2 hp3 ⊢
  refine ⟨_, rfl, habs (hint (hp1 (hp2 ⟨_, _, rfl, rfl, PWp, _, rfl, habs (hp3 ⟨_, _, rfl, rfl, trivial, hbl (hmulW own2 (one _) ?_)⟩)⟩)))⟩
  refine ⟨_, rfl, hint ⟨_, _, rfl, rfl, (by decide : (0 : Int) < 2305843009213693951), ?_⟩⟩
  have s0 := Int.emod_nonneg cell (b := 2305843009213693951) (by decide)
  have s1 := Int.emod_lt_of_pos cell (b := 2305843009213693951) (by decide)
  refine ⟨_, rfl, _, rfl, hmul (by omega) (by decide) ⟨_, rfl, hmul (by decide) (by omega) ⟨_, rfl, hmul (by omega) (by omega) (hadd (hadd (hint ⟨_, _, rfl, rfl, (by decide : (0 : Int) < 2305843009213693921), small (by simp), ?_⟩)))⟩⟩⟩
  intro a ha
  refine q a _ ha ⟨_, _, 0, mu_same, own _, Int.emod_nonneg _ (by decide), ?_, by decide, by decide⟩
  have := Int.emod_lt_of_pos (cell % 2305843009213693951 * 95009 + 11597 * (k : Int) * (k : Int) + 838) (b := 2305843009213693921) (by decide)
  omega
end K83

set_option maxHeartbeats 4000000
/-! K83c: drawn texts, bent values. -/
namespace K83
open PySem PySem.Spec DL KB
open L2 (atI ixN)
open PyProof.Rows hiding St signs

theorem of_signs : ∀ {ds : List DL.D}, (∀ d ∈ ds, ∃ c, okSign c = true ∧ d = .str (sg c)) → ∃ ys : List Str, ds = ys.map D.str ∧ ∀ y ∈ ys, ∃ c, okSign c = true ∧ y = sg c
  | [], _ => ⟨[], rfl, fun _ h => nomatch h⟩
  | d :: ds, P => by
    obtain ⟨ys, rfl, h⟩ := of_signs fun d hd => P d (List.mem_cons_of_mem _ hd)
    obtain ⟨c, h1, rfl⟩ := P _ List.mem_cons_self
    exact ⟨sg c :: ys, rfl, fun y hy => (List.mem_cons.mp hy).elim (fun e => ⟨c, h1, e⟩) (h y)⟩
def sp_any : DS1 := fun ds M Q => ∃ (a : Addr) (x : Str) (m c : Nat), ds = [.ref a, .str x, .int (m : Nat)] ∧ Pot M a c ∧ c + m + 2 ≤ 100000 ∧ m ≤ 1000 ∧ 0 < x.cps.size ∧ Fs 100 x ∧ ∀ (y : Str) M2, Fs m y → Dr M a M2 (c + m + 2) → Q (.str y) M2
theorem rd_any : ∀ ds M Q, sp_any ds M Q → ds.length = 3 ∧ r__law_n_any sp_take sp_of { nx := fun _ M' => Q .non M', rt := Q } (dstart N__law_n_any ds) M := by
  rintro _ M Q ⟨a, x, m, c, rfl, p, hc, hm, hx, fx, q⟩
  refine ⟨rfl, ?_⟩
  refine ⟨_, rfl, _, rfl, _, rfl, a, m + 1, c, rfl, p, by omega, by omega, by omega, fun d M1 h0 h1 d1 => ?_⟩
  refine ⟨d, rfl, by omega, by omega, ?_⟩
  have lr : (rgD 0 d.toNat).length = d.toNat := by unfold rgD; simp
  refine lc_inv (fun n M => Dr M1 a M (c + 1 + n)) (fun d => ∃ c, okSign c = true ∧ d = .str (sg c)) (fun _ _ _ => trivial) _ [] M1 (Dr.refl d1.1) (fun d hd => nomatch hd) ?_ (small (by rw [lr]; simp; omega)) ?_
  · intro e he n M' i hn K1 K2 hk
    rw [lr] at hn
    simp at hn
    refine ⟨_, rfl, _, rfl, a, _, c + 1 + n, rfl, i.1, by omega, .inr ⟨x, rfl, hx, by have := fx.1; omega, fun ch hch M' dr => ?_⟩⟩
    exact hk _ _ ⟨ch, fx.2 ch hch, rfl⟩ (i.trans dr)
  · intro ds M' l P i
    obtain ⟨ys, rfl, hy⟩ := of_signs P
    rw [List.length_map] at l i
    rw [lr] at l
    simp at l
    obtain ⟨f1, f2, f3⟩ := join_sg hy
    have jl : (Str.ofString "").length = 0 := rfl
    refine newTr ⟨ys, rfl, by rw [f3, jl]; omega, ?_⟩
    exact q _ M' ⟨by have := f1.1; omega, f1.2⟩ ((d1.trans i).up (by omega))

mutual
def tree : DL.D → Bool
  | .str _ => true
  | .int i => decide (i.natAbs ≤ 1000)
  | .tup xs => treeAll xs
  | _ => false
def treeAll : List DL.D → Bool
  | [] => true
  | x :: xs => tree x && treeAll xs
end
theorem treeAll_iff : ∀ {xs : List DL.D}, treeAll xs = true ↔ ∀ x ∈ xs, tree x = true
  | [] => by simp [treeAll]
  | x :: xs => by simp [treeAll, treeAll_iff (xs := xs)]
theorem tree_tup {xs : List DL.D} : tree (.tup xs) = true ↔ ∀ x ∈ xs, tree x = true := by
  rw [tree, treeAll_iff]
def sp_bent (N : Nat) : DS1 := fun ds M Q => ∃ (a : Addr) (v : DL.D) (c : Nat), ds = [.ref a, v] ∧ Pot M a c ∧ tree v = true ∧ gd v = true ∧ dep v < N ∧ dep v ≤ 50 ∧ c + (3 * N + 5) ≤ 100000 ∧ wt v ≤ 3000 ∧
  ∀ v' M2, gd v' = true → dep v' ≤ dep v + 1 → wt v' ≤ 2 * wt v + 10 → Dr M a M2 (c + (3 * N + 5)) → Q v' M2

/-- a small number's text -/
theorem int_text (i : Int) (h : i.natAbs ≤ 1000) : gd (.str (toString i)) = true ∧ ((toString i : String) : Str).cps.size ≤ 10 := by
  have l : ((toString i : String) : Str).cps.size ≤ 5 := by
    have := PySem.int_text_length_le10 (a := i) (k := 4) (by decide) (by omega)
    have e := PySem.ofString_length (toString i)
    show (Str.ofString (toString i)).length ≤ 5
    rw [e]; exact this
  refine ⟨gd_str.mpr ⟨by omega, fun c hc => ?_⟩, by omega⟩
  by_cases h2 : c < 128
  · exact h2
  · exact absurd hc (PyProof.Rows.int_text_free' c ⟨by omega, .inr (by omega)⟩ i)
theorem rd_bent (N : Nat) : ∀ ds M Q, sp_bent (N + 1) ds M Q → ds.length = 2 ∧ r__law_bent sp_take (sp_bent N) sp_of sp_odd { nx := fun _ M' => Q .non M', rt := Q } (dstart N__law_bent ds) M := by
  rintro _ M Q ⟨a, v, c, rfl, p, tv, gv, dN, d50, hc, w3, q⟩
  refine ⟨rfl, ?_⟩
  cases v
  case tup xs =>
    obtain ⟨gl, ga⟩ := gd_tup.mp gv
    have tx := tree_tup.mp tv
    have wx : wtAll xs ≤ 3000 := w3
    have lx := wtAll_len xs
    -- what is left when the tuple is taken whole
    have whole : ∀ M1 c1, c1 ≤ c + 1 → Dr M a M1 c1 → ∀ D : DEnds, D.rt = Q → dIfS (dB (dIsi "tuple" (dSlot 1))) (dRet (dCall1 sp_of (dCons (dSlot 0) (dCons (dLst true (dCons (dCB (rListD true) (dCons (dSlot 1) dNil)) (dCons (dSl true (dSlot 1) (dPart (dC (.int 1))) dNoPart) (dCons (dSl true (dSlot 1) dNoPart (dPart (dNeg (dC (.int 1))))) (dCons (dOp (rAddD true) (dSlot 1) (dSl true (dSlot 1) (dPart (dNeg (dC (.int 1)))) dNoPart)) (dCons (dRevS true (dSlot 1)) (dCons (dTup dNil) (dCons (dC .non) dNil)))))))) dNil)))) dNext D [some (.ref a), some (.tup xs), none, none] M1 := by
      rintro M1 c1 h1 d1 ⟨_, _, _, _⟩ rfl
      refine ⟨_, rfl, _, rfl, true, rfl, ?_⟩
      refine ⟨_, rfl, ?_⟩
      refine ⟨_, rfl, _, xs, rfl, rfl, newTr ?_⟩
      refine ⟨_, rfl, 1, rfl, ?_⟩
      refine ⟨_, rfl, 1, rfl, -1, rfl, ?_⟩
      refine ⟨_, rfl, _, rfl, 1, rfl, -1, rfl, ?_⟩
      have l2 : (DL.cutD xs (some (-1)) none).length ≤ 3000 := by
        have := wtAll_len (DL.cutD xs (some (-1)) none)
        have := wtAll_cut xs (some (-1)) none
        omega
      refine ⟨small (n := xs.length + (DL.cutD xs (some (-1)) none).length) (by omega), ?_⟩
      refine ⟨_, rfl, ?_⟩
      refine ⟨small (by simp), small (by simp), newTr ?_⟩
      refine ⟨a, _, c1, rfl, d1.1, by omega, .inl ⟨_, rfl, by simp, by simp, fun d hd M2 d2 => ?_⟩⟩
      have dr : Dr M a M2 (c + (3 * (N + 1) + 5)) := (d1.trans d2).up (by omega)
      simp at hd
      rcases hd with rfl | rfl | rfl | rfl | rfl | rfl | rfl
      · obtain ⟨h1, h2, h3⟩ := some_items gv wx (ys := xs) (fun y h => h) (by omega)
        exact q _ _ (gd_lst.mpr (gd_tup.mp h1)) h2 h3 dr
      · obtain ⟨h1, h2, h3⟩ := some_items gv wx (ys := DL.cutD xs (some 1) none) (fun y h => cut_mem h) (by have := wtAll_cut xs (some 1) none; omega)
        exact q _ _ h1 h2 h3 dr
      · obtain ⟨h1, h2, h3⟩ := some_items gv wx (ys := DL.cutD xs none (some (-1))) (fun y h => cut_mem h) (by have := wtAll_cut xs none (some (-1)); omega)
        exact q _ _ h1 h2 h3 dr
      · obtain ⟨h1, h2, h3⟩ := some_items gv wx (ys := xs ++ DL.cutD xs (some (-1)) none) (fun y h => (List.mem_append.mp h).elim id cut_mem) (by rw [wtAll_append]; have := wtAll_cut xs (some (-1)) none; omega)
        exact q _ _ h1 h2 h3 dr
      · obtain ⟨h1, h2, h3⟩ := some_items gv wx (ys := xs.reverse) (fun y h => List.mem_reverse.mp h) (by rw [wtAll_rev]; omega)
        exact q _ _ h1 h2 h3 dr
      · obtain ⟨h1, h2, h3⟩ := some_items gv wx (ys := []) (fun y h => nomatch h) (by simp [wtAll])
        exact q _ _ h1 h2 h3 dr
      · exact q _ _ rfl (by simp [dep]) (by simp [wt]) dr
    refine ⟨_, rfl, _, rfl, true, rfl, ?_⟩
    refine ⟨_, rfl, small (by simp), ne_unit gv (by omega) ⟨_, rfl, ?_⟩⟩
    cases xs with
    | nil => exact whole M c (by omega) (Dr.refl p) _ rfl
    | cons x xs =>
      refine ⟨_, rfl, a, 5, c, rfl, p, by omega, by omega, by omega, fun d M1 h0 h1 d1 => ?_⟩
      refine ⟨_, _, rfl, rfl, trivial, decide (0 < d), rfl, ?_⟩
      by_cases hd : 0 < d
      · rw [decide_eq_true hd]
        refine ⟨_, rfl, _, rfl, _, rfl, a, _, c + 1, rfl, d1.1, by omega, by simp, by omega, fun at_ M2 e0 e1 d2 => ?_⟩
        obtain ⟨k, rfl⟩ := Int.eq_ofNat_of_zero_le e0
        have hk : k < (x :: xs).length := by omega
        have hy : (x :: xs)[k] ∈ x :: xs := List.getElem_mem hk
        have ee : atI (x :: xs) (k : Int) = some (x :: xs)[k] := L2.atI_nat (List.getElem?_eq_getElem hk)
        generalize hyk : (x :: xs)[k] = y at hy ee
        have wy := wt_mem hy
        have dy : dep y ≤ depAll (x :: xs) := depAll_le.mp (Nat.le_refl _) y hy
        have dv : dep (.tup (x :: xs)) = depAll (x :: xs) + 1 := rfl
        have wv : wt (.tup (x :: xs)) = wtAll (x :: xs) := rfl
        refine ⟨_, rfl, _, rfl, _, rfl, ?_⟩
        refine ⟨_, rfl, _, rfl, _, rfl, x :: xs, y, rfl, ee, a, y, c + 2, rfl, d2.1, tx y hy, ga y hy, by omega, by omega, by omega, by omega, fun y' M3 g3 dp3 w3 d3 => ?_⟩
        refine ⟨small (by simp), ?_⟩
        have t1 := List.length_take_le k (x :: xs)
        have t2 : ((x :: xs).drop (k + 1)).length ≤ (x :: xs).length := by rw [List.length_drop]; omega
        show rAddD true (.tup (DL.cutD (x :: xs) none (some (k : Int)))) (.tup [y']) M3 _
        rw [cut_to]
        refine add_tups ?_ ?_
        · have : [y'].length = 1 := rfl
          omega
        refine ⟨_, rfl, _, rfl, _, rfl, ?_⟩
        show rAddD true (.tup ((x :: xs).take k ++ [y'])) (.tup (DL.cutD (x :: xs) (some (((k + 1 : Nat)) : Int)) none)) M3 Q
        rw [cut_from]
        refine add_tups ?_ ?_
        · rw [List.length_append]
          have : [y'].length = 1 := rfl
          omega
        have mem : ∀ z ∈ (x :: xs).take k ++ [y'] ++ (x :: xs).drop (k + 1), z ∈ x :: xs ∨ z = y' := by
          intro z hz
          rcases List.mem_append.mp hz with h | h
          · rcases List.mem_append.mp h with h | h
            · exact .inl (List.mem_of_mem_take h)
            · exact .inr (List.mem_singleton.mp h)
          · exact .inl (List.mem_of_mem_drop h)
        refine q _ _ (gd_tup.mpr ⟨?_, ?_⟩) ?_ ?_ (((d1.trans d2).trans d3).up (by omega))
        · rw [List.length_append, List.length_append]
          have : [y'].length = 1 := rfl
          omega
        · intro z hz
          rcases mem z hz with h | h
          · exact ga z h
          · rw [h]; exact g3
        · have : depAll ((x :: xs).take k ++ [y'] ++ (x :: xs).drop (k + 1)) ≤ depAll (x :: xs) + 1 := depAll_le.mpr fun z hz => by
            rcases mem z hz with h | h
            · have := depAll_le.mp (Nat.le_refl _) z h
              omega
            · rw [h]; omega
          rw [dv]
          simp only [dep]
          omega
        · have h1 := wtAll_take (x :: xs) k
          have h2 : (x :: xs).drop k = y :: (x :: xs).drop (k + 1) := by rw [← hyk]; exact List.drop_eq_getElem_cons hk
          have h3 : wtAll ((x :: xs).drop k) = wt y + 1 + wtAll ((x :: xs).drop (k + 1)) := by rw [h2]; rfl
          have h4 : wtAll [y'] = wt y' + 1 := by simp [wtAll]
          rw [wv]
          simp only [wt]
          rw [wtAll_append, wtAll_append, h4]
          omega
      · rw [decide_eq_false hd]
        exact whole M1 (c + 1) (by omega) d1 _ rfl
  case str x =>
    obtain ⟨sx, cx⟩ := gd_str.mp gv
    have wx : x.cps.size ≤ 3000 := w3
    have dz : dep (.str x) = 0 := rfl
    have wz : wt (.str x) = x.cps.size := rfl
    refine ⟨_, rfl, _, rfl, false, rfl, ?_⟩
    refine ⟨_, rfl, _, rfl, false, rfl, ?_⟩
    refine ⟨_, rfl, _, rfl, false, rfl, ?_⟩
    refine ⟨_, rfl, _, rfl, false, rfl, ?_⟩
    refine ⟨_, rfl, _, rfl, true, rfl, ?_⟩
    have one : ∀ y : Str, y.cps.size = 1 → x.cps.size + y.cps.size ≤ 100000 := fun y h => by omega
    refine ⟨_, rfl, ?_⟩
    refine ⟨small (one "a" rfl), ?_⟩
    refine ⟨_, rfl, 1, rfl, -1, rfl, small sx, ?_⟩
    refine ⟨_, rfl, x, rfl, ?_, ?_⟩
    · show x.cps.size ≤ _
      omega
    refine ⟨_, rfl, small (by simp), newTr ⟨_, rfl, ?_⟩⟩
    refine ⟨small (n := (Str.ofString "b").cps.size + x.cps.size) (by have : (Str.ofString "b").cps.size = 1 := rfl; omega), ?_⟩
    refine ⟨_, rfl, ?_⟩
    refine ⟨small (one "/" rfl), ?_⟩
    refine ⟨small (by simp), newTr ?_⟩
    refine ⟨_, rfl, _, rfl, a, _, c, rfl, p, by omega, .inl ⟨_, rfl, by simp, by simp, fun d hd M2 d2 => ?_⟩⟩
    have dr : Dr M a M2 (c + (3 * (N + 1) + 5)) := d2.up (by omega)
    have lit : ∀ y : Str, gd (.str y) = true → y.cps.size ≤ 1 → Q (.str y) M2 := fun y g l => q _ _ g (by simp [dep]) (by simp only [wt]; omega) dr
    have app : ∀ y z : Str, gd (.str y) = true → gd (.str z) = true → y.cps.size + z.cps.size = x.cps.size + 1 → Q (.str (y ++ z)) M2 := fun y z g1 g2 l => by
      obtain ⟨h1, h2⟩ := gd_app g1 g2 (by omega)
      exact q _ _ h1 (by simp [dep]) (by simp only [wt]; omega) dr
    simp at hd
    rcases hd with rfl | rfl | rfl | rfl | rfl | rfl | rfl | rfl | rfl | rfl
    · exact app x _ gv rfl rfl
    · obtain ⟨h1, h2⟩ := gd_cut gv none (some (-1))
      exact q _ _ h1 (by simp [dep]) (by simp only [wt]; omega) dr
    · obtain ⟨h1, h2⟩ := up_small cx
      exact q _ _ (gd_str.mpr ⟨by omega, h2⟩) (by simp [dep]) (by simp only [wt]; omega) dr
    · exact q _ _ (gd_lst.mpr ⟨by simp, fun y hy => by rw [List.mem_singleton.mp hy]; exact gv⟩) (by simp [dep, depAll]) (by simp only [wt, wtAll]; omega) dr
    · exact lit _ rfl (by decide)
    · exact q _ _ rfl (by simp [dep]) (by simp [wt]) dr
    · exact q _ _ rfl (by simp [dep]) (by simp [wt]) dr
    · exact lit _ rfl (by decide)
    · exact app _ x rfl gv (by have : (Str.ofString "b").cps.size = 1 := rfl; omega)
    · exact app x _ gv rfl rfl
  case int i =>
    have hi : i.natAbs ≤ 1000 := by simpa [tree] using tv
    refine ⟨_, rfl, _, rfl, false, rfl, ?_⟩
    refine ⟨_, rfl, _, rfl, false, rfl, ?_⟩
    refine ⟨_, rfl, _, rfl, false, rfl, ?_⟩
    refine ⟨_, rfl, _, rfl, true, rfl, ?_⟩
    have lg : ∀ j : Int, j.natAbs ≤ 1001 → j.natAbs.log2 < 1900 := fun j hj => by
      have : j.natAbs < 2 ^ 1900 := Nat.lt_of_le_of_lt hj (Nat.lt_of_lt_of_le (by decide : 1001 < 2 ^ 10) (Nat.pow_le_pow_right (by decide) (by decide)))
      by_cases z : j.natAbs = 0
      · rw [z]; decide
      · exact (Nat.log2_lt z).mpr this
    refine ⟨_, rfl, _, rfl, _, rfl, _, _, rfl, rfl, trivial, ?_⟩
    refine ⟨_, rfl, i, rfl, ?_⟩
    refine ⟨_, rfl, i, rfl, Nat.lt_trans (lg i (by omega)) (by decide), ?_⟩
    refine ⟨_, rfl, ?_⟩
    refine ⟨_, rfl, small (by simp), small (by simp), newTr ?_⟩
    refine ⟨a, _, c, rfl, p, by omega, .inl ⟨_, rfl, by simp, by simp, fun d hd M2 d2 => ?_⟩⟩
    have dr : Dr M a M2 (c + (3 * (N + 1) + 5)) := d2.up (by omega)
    have num : ∀ j : Int, j.natAbs ≤ 1001 → Q (.int j) M2 := fun j hj => q _ _ (by simp only [gd]; exact decide_eq_true (lg j hj)) (by simp [dep]) (by simp [wt]) dr
    simp at hd
    rcases hd with rfl | rfl | rfl | rfl | rfl | rfl | rfl
    · exact num _ (by omega)
    · exact num _ (by omega)
    · exact num _ (by omega)
    · have t4 := int_text i hi
      exact q _ _ t4.1 (by simp [dep]) (by have := t4.2; simp only [wt]; omega) dr
    · exact q _ _ rfl (by simp [dep]) (by simp [wt]) dr
    · exact q _ _ rfl (by simp [dep]) (by simp [wt]) dr
    · exact q _ _ (gd_tup.mpr ⟨by simp, fun y hy => by rw [List.mem_singleton.mp hy]; simp only [gd]; exact decide_eq_true (lg i (by omega))⟩) (by simp [dep, depAll]) (by simp only [wt, wtAll]; omega) dr
  all_goals simp [tree] at tv
end K83

set_option maxHeartbeats 4000000
/-! K83d: the program's table of distances. -/
namespace K83
open PySem PySem.Spec DL KB
open L2 (atI ixN)
open PyProof.Rows hiding St signs

/-- a for loop along what was passed -/
theorem for_pre {α : Type} {g : DTG} {tb : DTS} {D : DEnds} {G : Mp → Prop} (f : α → DL.D) (all : List α) (I : List α → Rho → Mp → Prop) (hG : ∀ p ρ M, I p ρ M → G M)
    (step : ∀ (pre : List α) (z : α) (suf : List α), pre ++ z :: suf = all → ∀ ρ M, I pre ρ M → ∀ N : Rho → Mp → Prop, (∀ ρ' M', I (pre ++ [z]) ρ' M' → N ρ' M') → g (f z) ρ M fun ρ2 M2 => tb { D with nx := N, ct := N, bk := D.nx } ρ2 M2)
    (fin : ∀ ρ' M', I all ρ' M' → D.nx ρ' M') : ∀ (zs pre : List α) (ρ : Rho) (M : Mp), pre ++ zs = all → I pre ρ M → forW g tb D G (zs.map f) ρ M
  | [], pre, ρ, M, e, i => by
    rw [List.append_nil] at e
    subst e
    exact ⟨hG _ _ _ i, fin ρ M i⟩
  | z :: zs, pre, ρ, M, e, i => by
    refine ⟨hG _ _ _ i, step pre z zs e ρ M i _ fun ρ' M' i' => ?_⟩
    exact for_pre f all I hG step fin zs (pre ++ [z]) ρ' M' (by rw [← e]; simp) i'
theorem range_pre {m k : Nat} {pre suf : List Nat} (h : pre ++ k :: suf = List.range m) : k = pre.length ∧ k < m := by
  have h1 : (pre ++ k :: suf)[pre.length]? = some k := by simp
  rw [h] at h1
  obtain ⟨h2, h3⟩ := List.getElem?_eq_some_iff.mp h1
  simp at h2 h3
  omega

def sufs {α : Type} : List α → List (List α)
  | [] => [[]]
  | x :: xs => (x :: xs) :: sufs xs
theorem sufs_get {α : Type} : ∀ (xs : List α) (i : Nat), i ≤ xs.length → (sufs xs)[i]? = some (xs.drop i)
  | [], 0, _ => rfl
  | [], i + 1, h => by simp at h
  | x :: xs, 0, _ => rfl
  | x :: xs, i + 1, h => by
    simp only [sufs, List.getElem?_cons_succ, List.drop_succ_cons]
    exact sufs_get xs i (by simpa using h)
theorem sufs_len {α : Type} : ∀ xs : List α, (sufs xs).length = xs.length + 1
  | [] => rfl
  | x :: xs => by simp [sufs, sufs_len xs]
def rowD (a ys : List Nat) : List DL.D := (sufs ys).map fun s => .int (dist a s : Nat)
def tabD (a ys : List Nat) : List DL.D := (sufs a).map fun s => .lst (rowD s ys)
theorem row_at (a ys : List Nat) {j : Nat} (h : j ≤ ys.length) : atI (rowD a ys) (j : Int) = some (.int (dist a (ys.drop j) : Nat)) := by
  refine L2.atI_nat ?_
  unfold rowD
  rw [List.getElem?_map, sufs_get _ _ h]
  rfl
theorem tab_at (a ys : List Nat) {j : Nat} (h : j ≤ a.length) : atI (tabD a ys) (j : Int) = some (.lst (rowD (a.drop j) ys)) := by
  refine L2.atI_nat ?_
  unfold tabD
  rw [List.getElem?_map, sufs_get _ _ h]
  rfl
theorem row_cons (a : List Nat) (y : Nat) (ys : List Nat) : rowD a (y :: ys) = .int (dist a (y :: ys) : Nat) :: rowD a ys := rfl
theorem tab_cons (x : Nat) (a ys : List Nat) : tabD (x :: a) ys = .lst (rowD (x :: a) ys) :: tabD a ys := rfl
theorem row_rev (a : List Nat) (y : Nat) (ys : List Nat) : (rowD a (y :: ys)).reverse = (rowD a ys).reverse ++ [.int (dist a (y :: ys) : Nat)] := by rw [row_cons, List.reverse_cons]
theorem tab_last : ∀ (a ys : List Nat), ∃ l, (tabD a ys).reverse = l ++ [.lst (rowD a ys)]
  | [], ys => ⟨[], rfl⟩
  | x :: a, ys => ⟨_, by rw [tab_cons, List.reverse_cons]⟩
theorem row_last : ∀ (a ys : List Nat), ∃ l, (rowD a ys).reverse = l ++ [.int (dist a ys : Nat)]
  | a, [] => ⟨[], rfl⟩
  | a, y :: ys => ⟨_, by rw [row_cons, List.reverse_cons]⟩
theorem row_nil (ys : List Nat) : rowD [] ys = (rgD 0 (ys.length + 1)).map fun d => match d with | .int i => .int ((ys.length : Int) - i) | _ => .non := by
  unfold rowD rgD
  rw [List.map_map]
  refine List.ext_getElem? fun i => ?_
  rw [List.getElem?_map, List.getElem?_map]
  by_cases h : i ≤ ys.length
  · rw [sufs_get _ _ h, List.getElem?_range (by omega)]
    simp only [Option.map_some, Function.comp]
    rw [dist_nil, List.length_drop]
    congr 2
    omega
  · rw [List.getElem?_eq_none (by rw [sufs_len]; omega), List.getElem?_eq_none (by simp; omega)]
    rfl
theorem row_len (a ys : List Nat) : (rowD a ys).length = ys.length + 1 := by unfold rowD; rw [List.length_map, sufs_len]
theorem tab_len (a ys : List Nat) : (tabD a ys).length = a.length + 1 := by unfold tabD; rw [List.length_map, sufs_len]
theorem SubM.none {M M' : Mp} (h : SubM M M') {a : Addr} (e : M' a = Option.none) : M a = Option.none := by
  cases q : M a with
  | none => rfl
  | some m => rw [h a m q] at e; cases e
abbrev ls (x : Str) : List Nat := x.cps.toList
theorem min3 (t b l : Nat) : (let m := if ((b : Int) + 1) < (t : Int) then ((b : Int) + 1) else (t : Int); if ((l : Int) + 1) < m then ((l : Int) + 1) else m) = ((min (min t (b + 1)) (l + 1) : Nat) : Int) := by
  simp only
  split <;> split <;> omega
def sp_dist1 : DS1 := fun ds M Q => ∃ X Y : Str, ds = [.str X, .str Y] ∧ X.cps.size ≤ 200 ∧ Y.cps.size ≤ 200 ∧ ∀ M', SubM M M' → Q (.lst (tabD (ls X) (ls Y))) M'
def sp_dist : DS1 := fun ds M Q => ∃ X Y : Str, ds = [.str X, .str Y] ∧ X.cps.size ≤ 200 ∧ Y.cps.size ≤ 200 ∧ Q (.lst (tabD (ls X) (ls Y))) M
theorem wk_dist : ∀ ds M Q, sp_dist ds M Q → sp_dist1 ds M fun d M1 => ∃ M2, SubM M2 M1 ∧ Q d M2 := by
  rintro _ M Q ⟨X, Y, rfl, h1, h2, q⟩
  exact ⟨X, Y, rfl, h1, h2, fun M' s => ⟨M, s, q⟩⟩
theorem rd_dist : ∀ ds M Q, sp_dist1 ds M Q → ds.length = 2 ∧ r_distances { nx := fun _ M' => Q .non M', rt := Q } (dstart N_distances ds) M := by
  rintro _ M Q ⟨X, Y, rfl, hX, hY, q⟩
  refine ⟨rfl, ?_⟩
  have lY : (ls Y).length = Y.cps.size := Array.length_toList
  have lX : (ls X).length = X.cps.size := Array.length_toList
  have yl : (Y.length : Int) = (ls Y).length := by rw [lY]; rfl
  refine ⟨_, rfl, small (n := Y.cps.size) (by omega), (Y.length : Int) + 1, rfl, by rw [yl]; omega, by rw [yl]; omega, ?_⟩
  have rl : (rgD 0 ((Y.length : Int) + 1).toNat).length = Y.cps.size + 1 := by unfold rgD; rw [List.length_map, List.length_range, yl, lY]; omega
  refine lc_map (fun d => match d with | .int i => .int (((ls Y).length : Int) - i) | _ => .non) (by exact trivial) _ [] ?_ (small (by rw [rl]; simp; omega)) ?_
  · intro d hd K1 K2 hk
    obtain ⟨i, _, rfl⟩ := List.mem_map.mp hd
    refine ⟨_, rfl, small (n := Y.cps.size) (by omega), _, rfl, _, _, rfl, rfl, trivial, ?_⟩
    rw [yl]; exact hk
  have e0 : [] ++ (rgD 0 ((Y.length : Int) + 1).toNat).map (fun d => match d with | .int i => D.int (((ls Y).length : Int) - i) | _ => .non) = rowD [] (ls Y) := by
    rw [List.nil_append, row_nil, yl]
    rfl
  rw [e0]
  refine newTr ⟨small (by simp), fun aF hF => ?_⟩
  have F0 : mu M aF (.lst [.lst (rowD [] (ls Y))]) aF = some (.lst (tabD [] (ls Y)).reverse) := mu_same
  have es : DL.signs (revT X) = (ls X).reverse.map fun c => D.str (sg c) := by unfold DL.signs revT; rfl
  refine ⟨_, rfl, small (n := X.cps.size) (by omega), ?_⟩
  show forW _ _ _ _ (DL.signs (revT X)) _ _
  rw [es]
  refine for_pre (fun c => D.str (sg c)) (ls X).reverse (fun pre ρ M1 => ∃ o3 o4 o5 o6 o7, ρ = [some (.str X), some (.str Y), some (.ref aF), o3, o4, o5, o6, o7] ∧ M1 aF = some (.lst (tabD pre.reverse (ls Y)).reverse) ∧ SubM M M1) (fun _ _ _ _ => trivial) ?_ ?_ _ [] _ _ rfl ⟨_, _, _, _, _, rfl, F0, (SubM.refl M).mu hF _⟩
  · rintro pre z suf hp ρ1 M1 ⟨o3, o4, o5, o6, o7, rfl, e1, s1⟩ N hN
    have zin : pre.length < X.cps.size := by
      have := congrArg List.length hp
      rw [List.length_append, List.length_cons, List.length_reverse, lX] at this
      omega
    obtain ⟨l, hl⟩ := tab_last pre.reverse (ls Y)
    have e1' : M1 aF = some (.lst (l ++ [.lst (rowD pre.reverse (ls Y))])) := by rw [e1, hl]
    generalize ha : pre.reverse = a at *
    have lst : ∀ {ρ : Rho} {Q : DK}, ρ[2]? = some (some (.ref aF)) → Q (.lst (rowD a (ls Y))) M1 → dOp DL.rIxD (dSlot 2) (dNeg (dC (.int 1))) ρ M1 Q := fun h q => ⟨_, h, 1, rfl, ⟨_, _, by show mol (M1 aF) = _; rw [e1']; rfl, L2.atI_last _ _, q⟩⟩
    refine lst rfl ?_
    refine lst rfl ?_
    have hlen : atI (rowD a (ls Y)) ((Y.length : Nat) : Int) = some (.int (dist a [] : Nat)) := by
      have := row_at a (ls Y) (j := (ls Y).length) (Nat.le_refl _)
      rw [← yl, List.drop_length] at this
      exact this
    refine ⟨_, rfl, small (n := Y.cps.size) (by omega), rowD a (ls Y), _, rfl, hlen, ?_⟩
    refine ⟨small (by simp), fun aR hR => ?_⟩
    have neR : aR ≠ aF := fun h => by rw [h, e1] at hR; cases hR
    have hR0 := SubM.none s1 hR
    refine ⟨_, _, rfl, ?_⟩
    have len0 : (rowD (z :: a) []).reverse = [D.int ((dist a [] : Nat) + 1)] := by
      unfold rowD sufs
      simp only [List.map_cons, List.map_nil, List.reverse_cons, List.reverse_nil, List.nil_append]
      rw [dist_nil2, dist_nil2]
      simp
    have R0 : mu M1 aR (.lst [D.int ((dist a [] : Nat) + 1)]) aR = some (.lst (rowD (z :: a) ((ls Y).drop ((ls Y).length - 0))).reverse) := by
      rw [mu_same, Nat.sub_zero, List.drop_length, len0]
    have k0 : mu M1 aR (.lst [D.int ((dist a [] : Nat) + 1)]) aF = M1 aF := mu_ne (Ne.symm neR)
    refine ⟨_, rfl, small (n := Y.cps.size) (by omega), _, _, rfl, rfl, trivial, 1, rfl, 1, rfl, _, _, rfl, rfl, rfl, ⟨by rw [yl]; omega, by rw [yl]; omega, by omega, by omega⟩, ?_⟩
    have nm : ((Y.length : Int) - 1 - -1).toNat = (ls Y).length := by rw [yl]; omega
    show forW _ _ _ _ ((List.range _).map _) _ _
    rw [nm]
    refine for_pre (fun k : Nat => D.int ((Y.length : Int) - 1 + (k : Nat) * (-1))) (List.range (ls Y).length)
      (fun p2 ρ M2 => ∃ o4 o7, ρ = [some (.str X), some (.str Y), some (.ref aF), some (.str (sg z)), o4, some (.lst (rowD a (ls Y))), some (.ref aR), o7] ∧ M2 aR = some (.lst (rowD (z :: a) ((ls Y).drop ((ls Y).length - p2.length))).reverse) ∧ M2 aF = M1 aF ∧ SubM M M2)
      (fun _ _ _ _ => trivial) ?_ ?_ _ [] _ _ rfl ⟨_, _, rfl, R0, k0, s1.mu hR0 _⟩
    · rintro p2 k suf2 hp2 ρ2 M2 ⟨o4, o7, rfl, r1, r2, r3⟩ N2 hN2
      obtain ⟨ek, hk⟩ := range_pre hp2
      obtain ⟨j, hj⟩ : ∃ j : Nat, j = (ls Y).length - 1 - p2.length := ⟨_, rfl⟩
      have ej : (Y.length : Int) - 1 + (k : Nat) * (-1) = (j : Int) := by rw [yl]; omega
      have jl : j < (ls Y).length := by omega
      have e2 : (ls Y).length - p2.length = j + 1 := by omega
      have e3 : (ls Y).length - (p2 ++ [k]).length = j := by rw [List.length_append, List.length_singleton]; omega
      rw [e2] at r1
      have dr : (ls Y).drop j = (ls Y)[j] :: (ls Y).drop (j + 1) := List.drop_eq_getElem_cons jl
      have yat : atI (ls Y) (j : Int) = some (ls Y)[j] := L2.atI_nat (List.getElem?_eq_getElem jl)
      generalize hy : (ls Y)[j] = y at dr yat
      have a1 : atI (rowD a (ls Y)) ((j : Int) + 1) = some (.int (dist a ((ls Y).drop (j + 1)) : Nat)) := by
        have := row_at a (ls Y) (j := j + 1) (by omega)
        rw [Int.natCast_add] at this
        exact this
      have a0 : atI (rowD a (ls Y)) (j : Int) = some (.int (dist a ((ls Y).drop j) : Nat)) := row_at a (ls Y) (by omega)
      obtain ⟨l2, hl2⟩ := row_last (z :: a) ((ls Y).drop (j + 1))
      have r1' : M2 aR = some (.lst (l2 ++ [.int (dist (z :: a) ((ls Y).drop (j + 1)) : Nat)])) := by rw [r1, hl2]
      show dgName 4 (D.int ((Y.length : Int) - 1 + (k : Nat) * (-1))) _ _ _
      rw [ej]
      refine ⟨_, rfl, _, rfl, rowD a (ls Y), _, rfl, a1, ?_⟩
      refine ⟨_, rfl, _, rfl, _, rfl, small (n := Y.cps.size) (by omega), y, yat, ?_⟩
      refine ⟨_, rfl, by show (mol (M2 aR)).isSome = true; rw [r1]; rfl, ?_⟩
      refine ⟨_, rfl, _, rfl, _, rfl, rowD a (ls Y), _, rfl, a0, ?_⟩
      refine ⟨_, rfl, 1, rfl, _, _, by show mol (M2 aR) = _; rw [r1']; rfl, L2.atI_last _ _, ?_⟩
      refine ⟨_, _, _, rfl, ?_⟩
      have tv : ((dist a ((ls Y).drop (j + 1)) : Nat) : Int) + (if (!decide ((sg z) = (⟨#[y]⟩ : Str))) = true then 1 else 0) = ((dist a ((ls Y).drop (j + 1)) + (if z = y then 0 else 1) : Nat) : Int) := by
        by_cases e : z = y
        · subst e
          have : decide (sg z = (⟨#[z]⟩ : Str)) = true := decide_eq_true rfl
          rw [this]; simp
        · have : decide (sg z = (⟨#[y]⟩ : Str)) = false := decide_eq_false fun h => e (sg_inj h)
          rw [this]; simp [e]
      have mv := min3 (dist a ((ls Y).drop (j + 1)) + (if z = y then 0 else 1)) (dist a ((ls Y).drop j)) (dist (z :: a) ((ls Y).drop (j + 1)))
      rw [← tv] at mv
      have dv : min (min (dist a ((ls Y).drop (j + 1)) + (if z = y then 0 else 1)) (dist a ((ls Y).drop j) + 1)) (dist (z :: a) ((ls Y).drop (j + 1)) + 1) = dist (z :: a) ((ls Y).drop j) := by
        rw [dr, dist_cons]
      rw [dv] at mv
      refine ⟨aR, _, _, rfl, rfl, r1, ?_, ?_⟩
      · rw [List.length_reverse, row_len, List.length_drop, sizeLine_eq]; omega
      · refine hN2 _ _ ⟨_, _, rfl, ?_, ?_, ?_⟩
        · rw [mu_same, e3, dr, row_rev, ← dr]
          have mv' := congrArg D.int mv
          rw [← mv']
          rfl
        · rw [mu_ne (Ne.symm neR)]; exact r2
        · exact r3.mu hR0 _
    · rintro ρ2 M2 ⟨o4, o7, rfl, r1, r2, r3⟩
      rw [List.length_range, Nat.sub_self, List.drop_zero] at r1
      refine ⟨_, rfl, by show (mol (M2 aF)).isSome = true; rw [r2, e1]; rfl, ?_⟩
      refine ⟨_, rfl, _, by show mol (M2 aR) = _; rw [r1]; rfl, newTr ?_⟩
      rw [List.reverse_reverse]
      refine ⟨aF, _, _, rfl, rfl, by rw [r2]; exact e1, ?_, ?_⟩
      · rw [List.length_reverse, tab_len]
        have : a.length ≤ 200 := by rw [← ha, List.length_reverse]; omega
        rw [sizeLine_eq]; omega
      · refine hN _ _ ⟨_, _, _, _, _, rfl, ?_, r3.mu hF _⟩
        rw [mu_same, List.reverse_append, List.reverse_singleton, List.singleton_append, ha, tab_cons, List.reverse_cons]
  · rintro ρ' M' ⟨o3, o4, o5, o6, o7, rfl, e, s⟩
    refine ⟨_, rfl, (tabD (ls X).reverse.reverse (ls Y)).reverse, by show mol (M' aF) = _; rw [e]; rfl, newTr ?_⟩
    rw [List.reverse_reverse, List.reverse_reverse]
    exact q M' s
end K83

set_option maxHeartbeats 4000000
/-! K83e: distance, edits. -/
namespace K83
open PySem PySem.Spec DL KB
open L2 (atI ixN)
open PyProof.Rows hiding St signs

def shortB (v : DL.D) : Bool := match v with
  | .str x => decide (x.cps.size ≤ 100) && x.cps.toList.all okSign
  | _ => false
def sp_short : DS1 := fun ds M Q => ∃ v, ds = [v] ∧ gd v = true ∧ Q (.bl (shortB v)) M
theorem rd_short : ∀ ds M Q, sp_short ds M Q → ds.length = 1 ∧ r_is_short { nx := fun _ M' => Q .non M', rt := Q } (dstart N_is_short ds) M := by
  rintro _ M Q ⟨v, rfl, gv, q⟩
  refine ⟨rfl, ?_⟩
  cases v
  case str x =>
    have sz := (gd_str.mp gv).1
    refine ⟨_, rfl, _, rfl, true, rfl, ?_⟩
    refine ⟨_, rfl, small sz, _, _, rfl, rfl, trivial, _, rfl, ?_⟩
    have xl : (x.length : Int) = (x.cps.size : Nat) := rfl
    by_cases h : x.cps.size ≤ 100
    · have e : shortB (.str x) = x.cps.toList.all okSign := by simp [shortB, h]
      rw [e] at q
      rw [decide_eq_true (show (x.length : Int) ≤ 100 by rw [xl]; omega)]
      refine ⟨_, rfl, ?_⟩
      refine lc_map (fun d => match d with | .str s => .bl (s.cps.toList.all okSign) | _ => .non) (by exact trivial) _ [] ?_ (by unfold DL.signs; simpa using small sz) ?_
      · intro d hd K1 K2 hk
        obtain ⟨c, hc, rfl⟩ := List.mem_map.mp hd
        refine ⟨_, rfl, c, rfl, ?_⟩
        simpa [okSign] using hk
      · refine ⟨_, x.cps.toList.map okSign, rfl, ?_, ?_⟩
        · show some _ = some _
          unfold DL.signs
          rw [List.nil_append, List.map_map, List.map_map]
          refine congrArg some (List.map_congr_left fun c _ => ?_)
          simp
        · rw [List.all_map]; exact q
    · have e : shortB (.str x) = false := by simp [shortB, h]
      rw [e] at q
      rw [decide_eq_false (show ¬ (x.length : Int) ≤ 100 by rw [xl]; omega)]
      exact q
  all_goals first | (simp [gd] at gv; done) | exact ⟨_, rfl, _, rfl, false, rfl, q⟩
def sp_check : DSp := fun ds M Q E => ∃ v, ds = [v] ∧ gd v = true ∧ (if shortB v = true then Q .non M else E "BadText" v M)
theorem rd_check : ∀ ds M Q E, sp_check ds M Q E → ds.length = 1 ∧ r_check_text E sp_short { nx := fun _ M' => Q .non M', rt := Q } (dstart N_check_text ds) M := by
  rintro _ M Q E ⟨v, rfl, gv, q⟩
  refine ⟨rfl, v, rfl, v, rfl, gv, shortB v, rfl, ?_⟩
  cases h : shortB v with
  | true => rw [h] at q; exact q
  | false => rw [h] at q; exact ⟨v, rfl, q⟩
theorem short_str {v : DL.D} (h : shortB v = true) : ∃ x : Str, v = .str x ∧ x.cps.size ≤ 100 ∧ ∀ c ∈ ls x, okSign c = true := by
  cases v <;> first | (simp [shortB] at h; done) | skip
  rename_i x
  simp only [shortB, Bool.and_eq_true, decide_eq_true_eq, List.all_eq_true] at h
  exact ⟨x, rfl, h.1, h.2⟩
/-- both texts short, else refused; then q -/
def two (u v : DL.D) (E : DXK) (M : Mp) (q : Prop) : Prop := if shortB u = true then (if shortB v = true then q else E "BadText" v M) else E "BadText" u M
def sp_distance : DSp := fun ds M Q E => ∃ u v, ds = [u, v] ∧ gd u = true ∧ gd v = true ∧ two u v E M (∀ x y : Str, u = .str x → v = .str y → Q (.int (dist (ls x) (ls y) : Nat)) M)
theorem rd_distance : ∀ ds M Q E, sp_distance ds M Q E → ds.length = 2 ∧ r_distance E sp_check sp_dist { nx := fun _ M' => Q .non M', rt := Q } (dstart N_distance ds) M := by
  rintro _ M Q E ⟨u, v, rfl, gu, gv, q⟩
  refine ⟨rfl, u, rfl, u, rfl, gu, ?_⟩
  unfold two at q
  cases hu : shortB u with
  | false => rw [hu] at q; exact q
  | true =>
    rw [hu] at q
    refine ⟨v, rfl, v, rfl, gv, ?_⟩
    cases hv : shortB v with
    | false => rw [hv] at q; exact q
    | true =>
      rw [hv] at q
      obtain ⟨x, rfl, hx, _⟩ := short_str hu
      obtain ⟨y, rfl, hy, _⟩ := short_str hv
      have q' := q x y rfl rfl
      have t0 := tab_at (ls x) (ls y) (j := 0) (Nat.zero_le _)
      have r0 := row_at ((ls x).drop 0) (ls y) (j := 0) (Nat.zero_le _)
      refine ⟨_, rfl, _, rfl, x, y, rfl, by omega, by omega, _, _, rfl, t0, _, _, rfl, r0, ?_⟩
      exact q'
def edT (x y : Str) : DL.D := .tup (ed (ls x) (ls y) 0)
theorem edL_le (x y : Str) : (ed (ls x) (ls y) 0).length = dist (ls x) (ls y) := ed_len _ _ _ 0 (Nat.le_refl _)
set_option maxHeartbeats 8000000 in
theorem ed_loop {M : Mp} {Q : DK} (x y : Str) (aF : Addr) (hx : x.cps.size ≤ 100) (hy : y.cps.size ≤ 100) (hF : M aF = none) (q : ∀ M', SubM M M' → Q (edT x y) M') :
    (dSeq (dWhile (dOrT (dB (dOp rLtD (dSlot 4) (dCB rLen (dCons (dSlot 0) dNil)))) (dB (dOp rLtD (dSlot 5) (dCB rLen (dCons (dSlot 1) dNil))))) (dSeq (dAsg (dOp rIxD (dOp rIxD (dSlot 2) (dSlot 4)) (dSlot 5)) (dgName 6)) (dSeq (dAsg (dAndV (dOp rLtD (dSlot 4) (dCB rLen (dCons (dSlot 0) dNil))) (dOp rLtD (dSlot 5) (dCB rLen (dCons (dSlot 1) dNil)))) (dgName 7)) (dIfS (dAndT (dB (dSlot 7)) (dAndT (dB (dOp (rEqD2 false) (dOp rIxD (dSlot 0) (dSlot 4)) (dOp rIxD (dSlot 1) (dSlot 5)))) (dB (dOp (rEqD2 false) (dOp rIxD (dOp rIxD (dSlot 2) (dOp (rAddD true) (dSlot 4) (dC (.int 1)))) (dOp (rAddD true) (dSlot 5) (dC (.int 1)))) (dSlot 6))))) (dPar 4 5 (dCons (dOp (rAddD true) (dSlot 4) (dC (.int 1))) (dCons (dOp (rAddD true) (dSlot 5) (dC (.int 1))) dNil))) (dIfS (dAndT (dB (dSlot 7)) (dB (dOp (rEqD2 false) (dOp rIxD (dOp rIxD (dSlot 2) (dOp (rAddD true) (dSlot 4) (dC (.int 1)))) (dOp (rAddD true) (dSlot 5) (dC (.int 1)))) (dOp (rInt (fun _ _ => True) fun i j => .int (i - j)) (dSlot 6) (dC (.int 1)))))) (dSeq (dDrop (dAppend (dSlot 3) (dTup (dCons (dC v_TURN) (dCons (dSlot 5) (dCons (dOp rIxD (dSlot 1) (dSlot 5)) dNil)))))) (dPar 4 5 (dCons (dOp (rAddD true) (dSlot 4) (dC (.int 1))) (dCons (dOp (rAddD true) (dSlot 5) (dC (.int 1))) dNil)))) (dIfS (dAndT (dB (dOp rLtD (dSlot 4) (dCB rLen (dCons (dSlot 0) dNil)))) (dB (dOp (rEqD2 false) (dOp rIxD (dOp rIxD (dSlot 2) (dOp (rAddD true) (dSlot 4) (dC (.int 1)))) (dSlot 5)) (dOp (rInt (fun _ _ => True) fun i j => .int (i - j)) (dSlot 6) (dC (.int 1)))))) (dSeq (dDrop (dAppend (dSlot 3) (dTup (dCons (dC v_OUT) (dCons (dSlot 5) dNil))))) (dAsg (dOp (rAddD true) (dSlot 4) (dC (.int 1))) (dgName 4))) (dSeq (dDrop (dAppend (dSlot 3) (dTup (dCons (dC v_IN) (dCons (dSlot 5) (dCons (dOp rIxD (dSlot 1) (dSlot 5)) dNil)))))) (dAsg (dOp (rAddD true) (dSlot 5) (dC (.int 1))) (dgName 5))))))))) (dRet (dCB rTupD (dCons (dSlot 3) dNil)))) { nx := fun _ M' => Q .non M', rt := Q } [some (.str x), some (.str y), some (.lst (tabD (ls x) (ls y))), some (.ref aF), some (.int 0), some (.int 0), none, none] (mu M aF (.lst [])) := by
  have lX : (ls x).length = x.cps.size := Array.length_toList
  have lY : (ls y).length = y.cps.size := Array.length_toList
  have xl : (x.length : Int) = ((ls x).length : Nat) := by rw [lX]; rfl
  have yl : (y.length : Int) = ((ls y).length : Nat) := by rw [lY]; rfl
  have sx : x.length ≤ sizeLine := small (n := x.cps.size) (by omega)
  have sy : y.length ≤ sizeLine := small (n := y.cps.size) (by omega)
  have total := edL_le x y
  have most := dist_most (ls x) (ls y)
  refine ⟨fun k ρ M' => ∃ (h t : Nat) (o6 o7 : Option DL.D) (acc : List DL.D), ρ = [some (.str x), some (.str y), some (.lst (tabD (ls x) (ls y))), some (.ref aF), some (.int (h : Nat)), some (.int (t : Nat)), o6, o7] ∧
      h ≤ (ls x).length ∧ t ≤ (ls y).length ∧ k = ((ls x).length - h) + ((ls y).length - t) ∧ M' aF = some (.lst acc) ∧ acc ++ ed ((ls x).drop h) ((ls y).drop t) t = ed (ls x) (ls y) 0 ∧ SubM M M',
    ⟨_, 0, 0, none, none, [], rfl, Nat.zero_le _, Nat.zero_le _, rfl, mu_same, by simp, (SubM.refl M).mu hF _⟩, ?_⟩
  rintro k ρ M1 ⟨h, t, o6, o7, acc, rfl, hh, ht, rfl, e1, e2, s1⟩
  have accl : acc.length ≤ 100 := by
    have := congrArg List.length e2
    rw [List.length_append] at this
    omega
  have room : acc.length < sizeLine := by rw [sizeLine_eq]; omega
  have some1 : (mol (M1 aF)).isSome = true := by rw [e1]; rfl
  have cell0 : atI (tabD (ls x) (ls y)) (h : Int) = some (.lst (rowD ((ls x).drop h) (ls y))) := tab_at _ _ hh
  have cell00 : atI (rowD ((ls x).drop h) (ls y)) (t : Int) = some (.int (dist ((ls x).drop h) ((ls y).drop t) : Nat)) := row_at _ _ ht
  have next : ∀ (h' t' : Nat) (o6 o7 : Option DL.D) (acc' : List DL.D) (M' : Mp), h' ≤ (ls x).length → t' ≤ (ls y).length → ((ls x).length - h') + ((ls y).length - t') < ((ls x).length - h) + ((ls y).length - t) → M' aF = some (.lst acc') →
      acc' ++ ed ((ls x).drop h') ((ls y).drop t') t' = ed (ls x) (ls y) 0 → SubM M M' → ∃ m', m' < ((ls x).length - h) + ((ls y).length - t) ∧ ∃ (h t : Nat) (p6 p7 : Option DL.D) (acc : List DL.D),
      [some (.str x), some (.str y), some (.lst (tabD (ls x) (ls y))), some (.ref aF), some (.int ((h' : Nat) : Int)), some (.int ((t' : Nat) : Int)), o6, o7] = [some (.str x), some (.str y), some (.lst (tabD (ls x) (ls y))), some (.ref aF), some (D.int (h : Nat)), some (.int (t : Nat)), p6, p7] ∧
      h ≤ (ls x).length ∧ t ≤ (ls y).length ∧ m' = ((ls x).length - h) + ((ls y).length - t) ∧ M' aF = some (.lst acc) ∧ acc ++ ed ((ls x).drop h) ((ls y).drop t) t = ed (ls x) (ls y) 0 ∧ SubM M M' :=
    fun h' t' o6 o7 acc' M' a1 a2 a3 a4 a5 a6 => ⟨_, a3, h', t', o6, o7, acc', rfl, a1, a2, rfl, a4, a5, a6⟩
  have up : ∀ e : DL.D, SubM M (mu M1 aF (.lst (acc ++ [e]))) := fun e => s1.mu hF _
  by_cases ch : h < (ls x).length
  · have dh : decide ((h : Int) < (x.length : Int)) = true := decide_eq_true (by rw [xl]; omega)
    have dx : (ls x).drop h = (ls x)[h] :: (ls x).drop (h + 1) := List.drop_eq_getElem_cons ch
    have xat : atI (ls x) (h : Int) = some (ls x)[h] := L2.atI_nat (List.getElem?_eq_getElem ch)
    have cell1 : atI (tabD (ls x) (ls y)) ((h : Int) + 1) = some (.lst (rowD ((ls x).drop (h + 1)) (ls y))) := by
      have := tab_at (ls x) (ls y) (j := h + 1) (by omega)
      rw [Int.natCast_add] at this
      exact this
    have cell10 : atI (rowD ((ls x).drop (h + 1)) (ls y)) (t : Int) = some (.int (dist ((ls x).drop (h + 1)) ((ls y).drop t) : Nat)) := row_at _ _ ht
    have nx := next (h + 1)
    obtain ⟨a, ha⟩ : ∃ a, a = (ls x).drop (h + 1) := ⟨_, rfl⟩
    rw [← ha] at dx cell1 cell10 nx
    generalize hc : (ls x)[h] = c at dx xat
    rw [dx] at cell0 cell00 e2
    refine ⟨_, rfl, _, rfl, sx, _, rfl, ?_⟩
    rw [dh]
    refine ⟨fun ρ' M' => ∃ m', m' < _ ∧ _, fun _ _ z => z, ?_⟩
    refine ⟨_, rfl, _, rfl, _, _, rfl, cell0, _, rfl, _, _, rfl, cell00, ?_⟩
    refine ⟨_, rfl, _, rfl, sx, _, rfl, ?_⟩
    rw [dh]
    refine ⟨_, rfl, _, rfl, sy, ?_⟩
    by_cases ct : t < (ls y).length
    · have dt : decide ((t : Int) < (y.length : Int)) = true := decide_eq_true (by rw [yl]; omega)
      have dy : (ls y).drop t = (ls y)[t] :: (ls y).drop (t + 1) := List.drop_eq_getElem_cons ct
      have yat : atI (ls y) (t : Int) = some (ls y)[t] := L2.atI_nat (List.getElem?_eq_getElem ct)
      have cell11 : atI (rowD a (ls y)) ((t : Int) + 1) = some (.int (dist a ((ls y).drop (t + 1)) : Nat)) := by
        have := row_at a (ls y) (j := t + 1) (by omega)
        rw [Int.natCast_add] at this
        exact this
      have nxy := nx (t + 1)
      have ny := next h (t + 1)
      rw [dx] at ny
      obtain ⟨b, hb⟩ : ∃ b, b = (ls y).drop (t + 1) := ⟨_, rfl⟩
      rw [← hb] at dy cell11 nxy ny
      have nx' := nx t
      rw [dy] at cell10 cell00 e2 nx'
      generalize hd : (ls y)[t] = d at dy yat cell10 cell00 e2 nx'
      simp only [rLtD, dt]
      rw [dy]
      have dd : decide ((⟨#[c]⟩ : Str) = ⟨#[d]⟩) = decide (c = d) := by
        by_cases z : c = d
        · subst z; simp
        · rw [decide_eq_false z]
          exact decide_eq_false fun e => z (sg_inj e)
      have total' : acc.length + dist (c :: a) (d :: b) = dist (ls x) (ls y) := by
        have := congrArg List.length e2
        rw [List.length_append, ed_len _ _ _ t (Nat.le_refl _), total] at this
        exact this
      rw [ed_cc] at e2
      have turn2 : ∀ z w : Nat, decide (((z : Nat) : Int) = ((w : Nat) : Int)) = decide (z = w) := fun z w => by
        by_cases e : z = w
        · subst e; simp
        · rw [decide_eq_false e, decide_eq_false (by omega)]
      have turn3 : ∀ z w : Nat, decide (((z : Nat) : Int) = ((w : Nat) : Int) - 1) = decide (z + 1 = w) := fun z w => by
        by_cases e : z + 1 = w
        · rw [decide_eq_true e, decide_eq_true (by omega)]
        · rw [decide_eq_false e, decide_eq_false (by omega)]
      have le1 := dist_cons c d a b
      refine ⟨_, rfl, true, rfl, ?_⟩
      refine ⟨_, rfl, _, rfl, sx, c, xat, _, rfl, _, rfl, sy, d, yat, _, rfl, ?_⟩
      rw [dd]
      by_cases cd : c = d
      · rw [decide_eq_true cd]
        refine ⟨_, rfl, _, rfl, _, _, rfl, cell1, _, rfl, _, _, rfl, cell11, _, rfl, _, rfl, ?_⟩
        rw [turn2]
        by_cases same : dist a b = dist (c :: a) (d :: b)
        · rw [decide_eq_true same]
          rw [if_pos ⟨cd, same⟩] at e2
          refine ⟨_, rfl, _, rfl, _, _, rfl, ?_⟩
          exact nxy _ _ acc _ (by omega) (by omega) (by omega) e1 e2 s1
        · rw [decide_eq_false same]
          rw [if_neg fun z => same z.2] at e2
          refine ⟨_, rfl, true, rfl, ?_⟩
          refine ⟨_, rfl, _, rfl, _, _, rfl, cell1, _, rfl, _, _, rfl, cell11, _, rfl, _, _, rfl, rfl, trivial, _, rfl, ?_⟩
          rw [turn3]
          by_cases t1 : dist a b + 1 = dist (c :: a) (d :: b)
          · rw [decide_eq_true t1]
            rw [if_pos t1] at e2
            refine ⟨_, rfl, some1, _, rfl, _, rfl, _, rfl, sy, d, yat, small (by simp), ?_⟩
            refine ⟨aF, _, acc, rfl, rfl, e1, room, ?_⟩
            refine ⟨_, rfl, _, rfl, _, _, rfl, ?_⟩
            refine nxy _ _ (acc ++ [turnE t d]) _ (by omega) (by omega) (by omega) mu_same ?_ (up _)
            rw [← e2]; simp
          · rw [decide_eq_false t1]
            rw [if_neg t1] at e2
            refine ⟨_, rfl, _, rfl, sx, _, rfl, ?_⟩
            rw [dh]
            refine ⟨_, rfl, _, rfl, _, _, rfl, cell1, _, rfl, _, _, rfl, cell10, _, rfl, _, _, rfl, rfl, trivial, _, rfl, ?_⟩
            rw [turn3]
            by_cases t2 : dist a (d :: b) + 1 = dist (c :: a) (d :: b)
            · rw [decide_eq_true t2]
              rw [if_pos t2] at e2
              refine ⟨_, rfl, some1, _, rfl, small (by simp), ?_⟩
              refine ⟨aF, _, acc, rfl, rfl, e1, room, ?_⟩
              refine ⟨_, rfl, ?_⟩
              refine nx' _ _ (acc ++ [outE t]) _ (by omega) ht (by omega) mu_same ?_ (up _)
              rw [← e2]; simp
            · rw [decide_eq_false t2]
              rw [if_neg t2] at e2
              refine ⟨_, rfl, some1, _, rfl, _, rfl, _, rfl, sy, d, yat, small (by simp), ?_⟩
              refine ⟨aF, _, acc, rfl, rfl, e1, room, ?_⟩
              refine ⟨_, rfl, ?_⟩
              refine ny _ _ (acc ++ [inE t d]) _ hh (by omega) (by omega) mu_same ?_ (up _)
              rw [← e2]; simp
      · rw [decide_eq_false cd]
        rw [if_neg fun z => cd z.1] at e2
        refine ⟨_, rfl, true, rfl, ?_⟩
        refine ⟨_, rfl, _, rfl, _, _, rfl, cell1, _, rfl, _, _, rfl, cell11, _, rfl, _, _, rfl, rfl, trivial, _, rfl, ?_⟩
        rw [turn3]
        by_cases t1 : dist a b + 1 = dist (c :: a) (d :: b)
        · rw [decide_eq_true t1]
          rw [if_pos t1] at e2
          refine ⟨_, rfl, some1, _, rfl, _, rfl, _, rfl, sy, d, yat, small (by simp), ?_⟩
          refine ⟨aF, _, acc, rfl, rfl, e1, room, ?_⟩
          refine ⟨_, rfl, _, rfl, _, _, rfl, ?_⟩
          refine nxy _ _ (acc ++ [turnE t d]) _ (by omega) (by omega) (by omega) mu_same ?_ (up _)
          rw [← e2]; simp
        · rw [decide_eq_false t1]
          rw [if_neg t1] at e2
          refine ⟨_, rfl, _, rfl, sx, _, rfl, ?_⟩
          rw [dh]
          refine ⟨_, rfl, _, rfl, _, _, rfl, cell1, _, rfl, _, _, rfl, cell10, _, rfl, _, _, rfl, rfl, trivial, _, rfl, ?_⟩
          rw [turn3]
          by_cases t2 : dist a (d :: b) + 1 = dist (c :: a) (d :: b)
          · rw [decide_eq_true t2]
            rw [if_pos t2] at e2
            refine ⟨_, rfl, some1, _, rfl, small (by simp), ?_⟩
            refine ⟨aF, _, acc, rfl, rfl, e1, room, ?_⟩
            refine ⟨_, rfl, ?_⟩
            refine nx' _ _ (acc ++ [outE t]) _ (by omega) ht (by omega) mu_same ?_ (up _)
            rw [← e2]; simp
          · rw [decide_eq_false t2]
            rw [if_neg t2] at e2
            refine ⟨_, rfl, some1, _, rfl, _, rfl, _, rfl, sy, d, yat, small (by simp), ?_⟩
            refine ⟨aF, _, acc, rfl, rfl, e1, room, ?_⟩
            refine ⟨_, rfl, ?_⟩
            refine ny _ _ (acc ++ [inE t d]) _ hh (by omega) (by omega) mu_same ?_ (up _)
            rw [← e2]; simp
    · have dt : decide ((t : Int) < (y.length : Int)) = false := decide_eq_false (by rw [yl]; omega)
      have dy : (ls y).drop t = [] := List.drop_of_length_le (by omega)
      have nx' := nx t
      rw [dy] at cell10 cell00 e2 nx'
      simp only [rLtD, dt]
      rw [dy]
      rw [ed_cn] at e2
      refine ⟨_, rfl, false, rfl, ?_⟩
      refine ⟨_, rfl, false, rfl, ?_⟩
      refine ⟨_, rfl, _, rfl, sx, _, rfl, ?_⟩
      rw [dh]
      refine ⟨_, rfl, _, rfl, _, _, rfl, cell1, _, rfl, _, _, rfl, cell10, _, rfl, _, _, rfl, rfl, trivial, _, rfl, ?_⟩
      rw [dist_nil2, dist_nil2, decide_eq_true (by simp)]
      refine ⟨_, rfl, some1, _, rfl, small (by simp), ?_⟩
      refine ⟨aF, _, acc, rfl, rfl, e1, room, ?_⟩
      refine ⟨_, rfl, ?_⟩
      refine nx' _ _ (acc ++ [outE t]) _ (by omega) ht (by omega) mu_same ?_ (up _)
      rw [← e2]; simp
  · have dh : decide ((h : Int) < (x.length : Int)) = false := decide_eq_false (by rw [xl]; omega)
    have dx : (ls x).drop h = [] := List.drop_of_length_le (by omega)
    rw [dx] at e2 cell00
    refine ⟨_, rfl, _, rfl, sx, _, rfl, ?_⟩
    rw [dh]
    refine ⟨_, rfl, _, rfl, sy, _, rfl, ?_⟩
    by_cases ct : t < (ls y).length
    · have dt : decide ((t : Int) < (y.length : Int)) = true := decide_eq_true (by rw [yl]; omega)
      have dy : (ls y).drop t = (ls y)[t] :: (ls y).drop (t + 1) := List.drop_eq_getElem_cons ct
      have yat : atI (ls y) (t : Int) = some (ls y)[t] := L2.atI_nat (List.getElem?_eq_getElem ct)
      have ny := next h (t + 1)
      rw [dx] at ny
      generalize hd : (ls y)[t] = d at dy yat
      rw [dy] at cell00 e2
      rw [ed_nc] at e2
      rw [dt]
      refine ⟨fun ρ' M' => ∃ m', m' < _ ∧ _, fun _ _ z => z, ?_⟩
      refine ⟨_, rfl, _, rfl, _, _, rfl, cell0, _, rfl, _, _, rfl, row_at _ _ ht, ?_⟩
      refine ⟨_, rfl, _, rfl, sx, _, rfl, ?_⟩
      rw [dh]
      refine ⟨_, rfl, false, rfl, ?_⟩
      refine ⟨_, rfl, false, rfl, ?_⟩
      refine ⟨_, rfl, _, rfl, sx, _, rfl, ?_⟩
      rw [dh]
      refine ⟨_, rfl, some1, _, rfl, _, rfl, _, rfl, sy, d, yat, small (by simp), ?_⟩
      refine ⟨aF, _, acc, rfl, rfl, e1, room, ?_⟩
      refine ⟨_, rfl, ?_⟩
      refine ny _ _ (acc ++ [inE t d]) _ hh (by omega) (by omega) mu_same ?_ (up _)
      rw [← e2]; simp
    · have dt : decide ((t : Int) < (y.length : Int)) = false := decide_eq_false (by rw [yl]; omega)
      have dy : (ls y).drop t = [] := List.drop_of_length_le (by omega)
      rw [dy, ed_nn, List.append_nil] at e2
      rw [dt]
      refine ⟨_, rfl, acc, by show mol (M1 aF) = _; rw [e1]; rfl, ?_⟩
      rw [e2]
      exact q M1 s1
def sp_edits : DSp := fun ds M Q E => ∃ u v, ds = [u, v] ∧ gd u = true ∧ gd v = true ∧ two u v E M (∀ x y : Str, u = .str x → v = .str y → ∀ M', SubM M M' → Q (edT x y) M')
theorem rd_edits : ∀ ds M Q E, sp_edits ds M Q E → ds.length = 2 ∧ r_edits E sp_check sp_dist { nx := fun _ M' => Q .non M', rt := Q } (dstart N_edits ds) M := by
  rintro _ M Q E ⟨u, v, rfl, gu, gv, q⟩
  refine ⟨rfl, u, rfl, u, rfl, gu, ?_⟩
  unfold two at q
  cases hu : shortB u with
  | false => rw [hu] at q; exact q
  | true =>
    rw [hu] at q
    refine ⟨v, rfl, v, rfl, gv, ?_⟩
    cases hv : shortB v with
    | false => rw [hv] at q; exact q
    | true =>
      rw [hv] at q
      obtain ⟨x, rfl, hx, _⟩ := short_str hu
      obtain ⟨y, rfl, hy, _⟩ := short_str hv
      have q' := q x y rfl rfl
      refine ⟨_, rfl, _, rfl, x, y, rfl, by omega, by omega, small (by simp), fun aF hF => ?_⟩
      refine ⟨small (by simp), _, rfl, rfl, _, _, rfl, _, _, rfl, _, _, rfl, _, _, rfl, rfl, ?_⟩
      exact ed_loop x y aF (by omega) (by omega) hF q'
end K83

set_option maxHeartbeats 4000000
/-! K83f: edits by their form, edits done. -/
namespace K83
open PySem PySem.Spec DL KB
open L2 (atI ixN)
open PyProof.Rows hiding St signs

def isStrD : DL.D → Bool
  | .str _ => true
  | _ => false
def isIntD : DL.D → Bool
  | .int _ => true
  | _ => false
def sp_tuple : DS1 := fun ds M Q => ∃ v lo hi, ds = [v, .int lo, .int hi] ∧ gd v = true ∧ Q (.bl (tupB v lo hi)) M
theorem rd_tuple : ∀ ds M Q, sp_tuple ds M Q → ds.length = 3 ∧ r_is_tuple { nx := fun _ M' => Q .non M', rt := Q } (dstart N_is_tuple ds) M := by
  rintro _ M Q ⟨v, lo, hi, rfl, gv, q⟩
  refine ⟨rfl, ?_⟩
  cases v
  case tup xs =>
    refine ⟨_, rfl, _, rfl, true, rfl, ?_⟩
    refine ⟨_, rfl, _, rfl, xs, rfl, _, _, rfl, rfl, trivial, _, rfl, ?_⟩
    by_cases h : lo ≤ (xs.length : Int)
    · rw [decide_eq_true h]
      simp only [tupB, decide_eq_true h, Bool.true_and] at q
      exact ⟨_, rfl, _, _, rfl, rfl, trivial, q⟩
    · rw [decide_eq_false h]
      simp only [tupB, decide_eq_false h, Bool.false_and] at q
      exact q
  all_goals first | (simp [gd] at gv; done) | exact ⟨_, rfl, _, rfl, false, rfl, q⟩
def sp_whole : DS1 := fun ds M Q => ∃ v, ds = [v] ∧ gd v = true ∧ Q (.bl (isIntD v)) M
theorem rd_whole : ∀ ds M Q, sp_whole ds M Q → ds.length = 1 ∧ r_is_whole { nx := fun _ M' => Q .non M', rt := Q } (dstart N_is_whole ds) M := by
  rintro _ M Q ⟨v, rfl, gv, q⟩
  refine ⟨rfl, ?_⟩
  cases v <;> first | (simp [gd] at gv; done) | exact ⟨_, rfl, _, rfl, false, rfl, q⟩ | exact ⟨_, rfl, _, rfl, true, rfl, _, rfl, _, rfl, _, rfl, q⟩
theorem ix2 {α : Type} {x y z : α} {r : List α} : atI (x :: y :: z :: r) 2 = some z := L2.atI_nat (j := 2) rfl
theorem one_iff (s : Str) : oneS s = decide (s ∈ (ls SIG).map sg) := by
  unfold oneS
  by_cases h : s.cps.size = 1
  · obtain ⟨⟨l⟩⟩ := s
    match l, h with
    | [c], _ =>
      have e : decide ((⟨#[c]⟩ : Str) ∈ (ls SIG).map sg) = okSign c := by
        unfold okSign
        by_cases hc : c ∈ SIG.cps.toList
        · rw [decide_eq_true hc]
          exact decide_eq_true (List.mem_map.mpr ⟨c, hc, rfl⟩)
        · rw [decide_eq_false hc]
          refine decide_eq_false fun z => hc ?_
          obtain ⟨c', h1, h2⟩ := List.mem_map.mp z
          rw [← sg_inj h2]; exact h1
      have e2 : decide ((({ cps := { toList := [c] } } : Str).cps.size = 1)) = true := rfl
      rw [e2]
      show (true && [c].all okSign) = _
      rw [show ({ cps := { toList := [c] } } : Str) = ⟨#[c]⟩ from rfl, e]
      simp
  · rw [decide_eq_false h, Bool.false_and]
    refine (decide_eq_false fun z => h ?_).symm
    obtain ⟨c, _, rfl⟩ := List.mem_map.mp z
    rfl
theorem sigs : DL.signs SIG = ((ls SIG).map sg).map D.str := by
  unfold DL.signs
  rw [List.map_map]
  rfl
def sp_is_edit : DS1 := fun ds M Q => ∃ v, ds = [v] ∧ gd v = true ∧ Q (.bl (formE v)) M
theorem rd_is_edit : ∀ ds M Q, sp_is_edit ds M Q → ds.length = 1 ∧ r_is_edit sp_tuple sp_whole { nx := fun _ M' => Q .non M', rt := Q } (dstart N_is_edit ds) M := by
  rintro _ M Q ⟨v, rfl, gv, q⟩
  refine ⟨rfl, ?_⟩
  refine ⟨_, rfl, v, 2, 3, rfl, gv, _, rfl, ?_⟩
  by_cases ht : tupB v 2 3 = true
  case neg =>
    have ht := Bool.eq_false_iff.mpr ht
    have : formE v = false := by
      unfold formE
      split
      · simp [tupB] at ht
      · simp [tupB] at ht
      · rfl
    rw [ht]
    rw [this] at q
    exact q
  rw [ht]
  cases v <;> first | (simp [tupB] at ht; done) | skip
  rename_i xs
  obtain ⟨gl, ga⟩ := gd_tup.mp gv
  rcases xs with _ | ⟨a, _ | ⟨b, _ | ⟨c, _ | ⟨e, r⟩⟩⟩⟩
  · simp [tupB] at ht
  · simp [tupB] at ht
  · have g1 := ga a (by simp)
    have g2 := ga b (by simp)
    cases a
    case str w =>
      refine ⟨_, rfl, _, _, rfl, ix0, _, rfl, _, rfl, ?_⟩
      refine ⟨_, rfl, _, b, rfl, ix1, b, rfl, g2, _, rfl, ?_⟩
      cases b
      case int p =>
        refine ⟨_, rfl, _, rfl, true, rfl, ?_⟩
        exact ⟨_, rfl, _, _, rfl, ix0, q⟩
      all_goals exact q
    all_goals first | (simp [gd] at g1; done) | exact ⟨_, rfl, _, _, rfl, ix0, _, rfl, _, rfl, q⟩
  · have g1 := ga a (by simp)
    have g2 := ga b (by simp)
    have g3 := ga c (by simp)
    cases a
    case str w =>
      refine ⟨_, rfl, _, _, rfl, ix0, _, rfl, _, rfl, ?_⟩
      refine ⟨_, rfl, _, b, rfl, ix1, b, rfl, g2, _, rfl, ?_⟩
      cases b
      case int p =>
        refine ⟨_, rfl, _, rfl, false, rfl, ?_⟩
        refine ⟨_, rfl, _, _, rfl, ix0, small (by simp), in_texts (neg := false) (ws := ["in", "turn"]) ⟨_, rfl, ?_⟩⟩
        have ww : decide (w ∈ (["in", "turn"] : List Str)) = (decide (w = "in") || decide (w = "turn")) := by simp
        rw [if_neg Bool.false_ne_true, ww]
        cases hw : (decide (w = "in") || decide (w = "turn")) with
        | false =>
          have : formE (.tup [.str w, .int p, c]) = false := by
            cases c <;> first | rfl | (simp only [formE, hw, Bool.false_and])
          rw [this] at q
          exact q
        | true =>
          cases c
          case str s =>
            refine ⟨_, rfl, _, _, rfl, ix2, _, rfl, _, rfl, ?_⟩
            refine ⟨_, rfl, _, _, rfl, ix2, small (n := SIG.cps.size) (by decide), ?_⟩
            show DL.rInD false (.str s) (.tup (DL.signs SIG)) M Q
            rw [sigs]
            refine in_texts (neg := false) ?_
            rw [if_neg Bool.false_ne_true, ← one_iff]
            simp only [formE, hw, Bool.true_and] at q
            exact q
          all_goals first | (simp [gd] at g3; done) | exact ⟨_, rfl, _, _, rfl, ix2, _, rfl, _, rfl, q⟩
      all_goals exact q
    all_goals first | (simp [gd] at g1; done) | exact ⟨_, rfl, _, _, rfl, ix0, _, rfl, _, rfl, q⟩
  · simp [tupB] at ht
    omega
end K83

set_option maxHeartbeats 4000000
/-! K83g: edits done. -/
namespace K83
open PySem PySem.Spec DL KB
open L2 (atI ixN)
open PyProof.Rows hiding St signs

def os (l : List Nat) : Str := ⟨l.toArray⟩
theorem ls_os (l : List Nat) : ls (os l) = l := rfl
theorem os_ls (X : Str) : os (ls X) = X := by cases X; rfl
theorem cutS_os (X : Str) (lo hi : Option Int) : L2.cutS X lo hi = os (DL.cutD (ls X) lo hi) := by
  have : (L2.cutS X lo hi).cps.toList = DL.cutD X.cps.toList lo hi := by
    unfold L2.cutS DL.cutD
    rw [Array.length_toList]
    rfl
  rw [← os_ls (L2.cutS X lo hi)]
  exact congrArg os this
theorem app_os (a b : List Nat) : os a ++ os b = os (a ++ b) := by
  rw [← os_ls (os a ++ os b)]
  exact congrArg os (app_list (os a) (os b))
def optD : Option (List Nat) → DL.D
  | some l => .str (os l)
  | none => .non
theorem form_shape {e : DL.D} (h : formE e = true) : (∃ p, e = .tup [.str "out", .int p]) ∨ ∃ (w : Str) (p : Int) (c : Nat), (w = "in" ∨ w = "turn") ∧ okSign c = true ∧ e = .tup [.str w, .int p, .str (sg c)] := by
  unfold formE at h
  split at h
  · rename_i w p
    exact .inl ⟨p, by rw [of_decide_eq_true h]⟩
  · rename_i w p s
    rw [Bool.and_eq_true, Bool.or_eq_true, decide_eq_true_eq, decide_eq_true_eq] at h
    obtain ⟨h1, h2⟩ := h
    rw [one_iff] at h2
    obtain ⟨c, hc, rfl⟩ := List.mem_map.mp (of_decide_eq_true h2)
    exact .inr ⟨w, p, c, h1, decide_eq_true hc, rfl⟩
  · cases h
theorem n_out_in : decide (("out" : Str) = "in") = false := by decide
theorem n_turn_in : decide (("turn" : Str) = "in") = false := by decide
theorem n_turn_out : decide (("turn" : Str) = "out") = false := by decide
theorem n_in_out : decide (("in" : Str) = "out") = false := by decide
theorem n_out_turn : decide (("out" : Str) = "turn") = false := by decide
theorem n_in_turn : decide (("in" : Str) = "turn") = false := by decide
theorem step_len {x l : List Nat} {e : DL.D} (h : stepL x e = some l) (f : formE e = true) : l.length ≤ x.length + 1 := by
  rcases form_shape f with ⟨p, rfl⟩ | ⟨w, p, c, hw, _, rfl⟩
  · simp only [stepL] at h
    split at h
    · cases h; simp; omega
    · cases h
  · simp only [stepL] at h
    split at h
    · split at h
      · cases h; simp [sg]; omega
      · split at h
        · cases h
        · cases h; simp [sg]; omega
    · cases h
def sp_edited : DS1 := fun ds M Q => ∃ X e, ds = [.str X, e] ∧ X.cps.size ≤ 1000 ∧ formE e = true ∧ Q (optD (stepL (ls X) e)) M
theorem rd_edited : ∀ ds M Q, sp_edited ds M Q → ds.length = 2 ∧ r_edited { nx := fun _ M' => Q .non M', rt := Q } (dstart N_edited ds) M := by
  rintro _ M Q ⟨X, e, rfl, hX, fe, q⟩
  refine ⟨rfl, ?_⟩
  have lX : (ls X).length = X.cps.size := Array.length_toList
  have xl : (X.length : Int) = ((ls X).length : Nat) := by rw [lX]; rfl
  have sX : X.length ≤ sizeLine := small (n := X.cps.size) (by omega)
  have cut1 : ∀ n : Nat, L2.cutS X none (some (n : Int)) = os ((ls X).take n) := fun n => by rw [cutS_os, cut_to]
  have cut2 : ∀ n : Nat, L2.cutS X (some (n : Int)) none = os ((ls X).drop n) := fun n => by rw [cutS_os, cut_from]
  have tl : ∀ n : Nat, ((ls X).take n).length ≤ 1000 := fun n => by rw [List.length_take]; omega
  have dl : ∀ n : Nat, ((ls X).drop n).length ≤ 1000 := fun n => by rw [List.length_drop]; omega
  rcases form_shape fe with ⟨p, rfl⟩ | ⟨w, p, c, hw, hc, rfl⟩
  · refine ⟨_, rfl, _, _, rfl, ix0, _, rfl, _, _, rfl, ix1, _, _, rfl, ?_⟩
    refine ⟨_, rfl, _, _, rfl, rfl, trivial, decide (0 ≤ p), rfl, ?_⟩
    by_cases p0 : 0 ≤ p
    · rw [decide_eq_true p0]
      obtain ⟨n, rfl⟩ := Int.eq_ofNat_of_zero_le p0
      refine ⟨_, rfl, sX, _, _, rfl, rfl, trivial, _, rfl, ?_⟩
      by_cases p1 : n ≤ (ls X).length
      · rw [decide_eq_true (show (n : Int) ≤ (X.length : Int) by rw [xl]; omega)]
        refine ⟨_, rfl, true, by show D.bl (!decide (("out" : Str) = "in")) = _; rw [n_out_in]; rfl, ?_⟩
        refine ⟨_, rfl, _, rfl, sX, _, rfl, ?_⟩
        by_cases p2 : n = (ls X).length
        · rw [decide_eq_true (show (n : Int) = (X.length : Int) by rw [xl]; omega)]
          simp only [stepL] at q
          rw [if_neg (by omega)] at q
          exact q
        · rw [decide_eq_false (show ¬ (n : Int) = (X.length : Int) by rw [xl]; omega)]
          simp only [stepL] at q
          rw [if_pos (by omega)] at q
          refine ⟨_, rfl, false, by show D.bl (decide (("out" : Str) = "in")) = _; rw [n_out_in], ?_⟩
          refine ⟨_, rfl, true, by show D.bl (decide (("out" : Str) = "out")) = _; rw [decide_eq_true rfl], ?_⟩
          refine ⟨_, rfl, _, rfl, _, rfl, sX, ?_⟩
          refine ⟨_, rfl, _, rfl, _, rfl, sX, ?_⟩
          show rAddD true (.str (L2.cutS X none (some (n : Int)))) (.str (L2.cutS X (some ((n + 1 : Nat) : Int)) none)) M Q
          rw [cut1, cut2]
          have := tl n
          have := dl (n + 1)
          refine add_strs (by show ((ls X).take n).length + ((ls X).drop (n + 1)).length ≤ 100000; omega) ?_
          rw [app_os]
          exact q
      · rw [decide_eq_false (show ¬ (n : Int) ≤ (X.length : Int) by rw [xl]; omega)]
        simp only [stepL] at q
        rw [if_neg (by omega)] at q
        exact q
    · rw [decide_eq_false p0]
      simp only [stepL] at q
      rw [if_neg (by omega)] at q
      exact ⟨_, rfl, q⟩
  · refine ⟨_, rfl, _, _, rfl, ix0, _, rfl, _, _, rfl, ix1, _, _, rfl, ?_⟩
    refine ⟨_, rfl, _, _, rfl, rfl, trivial, decide (0 ≤ p), rfl, ?_⟩
    by_cases p0 : 0 ≤ p
    · rw [decide_eq_true p0]
      obtain ⟨n, rfl⟩ := Int.eq_ofNat_of_zero_le p0
      refine ⟨_, rfl, sX, _, _, rfl, rfl, trivial, _, rfl, ?_⟩
      have t1 := tl n
      have t2 := dl n
      have t3 := dl (n + 1)
      by_cases p1 : n ≤ (ls X).length
      · rw [decide_eq_true (show (n : Int) ≤ (X.length : Int) by rw [xl]; omega)]
        rcases hw with rfl | rfl
        · refine ⟨_, rfl, false, by show D.bl (!decide (("in" : Str) = "in")) = _; rw [decide_eq_true rfl]; rfl, ?_⟩
          refine ⟨_, rfl, true, by show D.bl (decide (("in" : Str) = "in")) = _; rw [decide_eq_true rfl], ?_⟩
          simp only [stepL] at q
          rw [if_pos ⟨by omega, by omega, by simp⟩, if_pos trivial] at q
          refine ⟨_, rfl, _, rfl, _, rfl, sX, _, rfl, _, _, rfl, ix2, ?_⟩
          show rAddD true (.str (L2.cutS X none (some (n : Int)))) (.str (sg c)) M _
          rw [cut1]
          refine add_strs (by show ((ls X).take n).length + 1 ≤ 100000; omega) ?_
          rw [show sg c = os [c] from rfl, app_os]
          refine ⟨_, rfl, _, rfl, _, rfl, sX, ?_⟩
          show rAddD true (.str (os ((ls X).take n ++ [c]))) (.str (L2.cutS X (some (n : Int)) none)) M Q
          rw [cut2]
          refine add_strs (by show ((ls X).take n ++ [c]).length + ((ls X).drop n).length ≤ 100000; rw [List.length_append, List.length_singleton]; omega) ?_
          rw [app_os]
          exact q
        · refine ⟨_, rfl, true, by show D.bl (!decide (("turn" : Str) = "in")) = _; rw [n_turn_in]; rfl, ?_⟩
          refine ⟨_, rfl, _, rfl, sX, _, rfl, ?_⟩
          by_cases p2 : n = (ls X).length
          · rw [decide_eq_true (show (n : Int) = (X.length : Int) by rw [xl]; omega)]
            simp only [stepL] at q
            rw [if_neg (fun z => z.2.2 ⟨of_decide_eq_false n_turn_in, by omega⟩)] at q
            exact q
          · rw [decide_eq_false (show ¬ (n : Int) = (X.length : Int) by rw [xl]; omega)]
            have dx : (ls X).drop n = (ls X)[n] :: (ls X).drop (n + 1) := List.drop_eq_getElem_cons (by omega)
            have xat : atI (ls X) (n : Int) = some (ls X)[n] := L2.atI_nat (List.getElem?_eq_getElem (by omega))
            generalize (ls X)[n] = d at dx xat
            simp only [stepL] at q
            rw [if_pos ⟨by omega, by omega, fun z => p2 (by omega)⟩, if_neg (of_decide_eq_false n_turn_in)] at q
            simp only [Int.toNat_natCast, dx, List.take_succ_cons, List.take_zero] at q
            refine ⟨_, rfl, false, by show D.bl (decide (("turn" : Str) = "in")) = _; rw [n_turn_in], ?_⟩
            refine ⟨_, rfl, false, by show D.bl (decide (("turn" : Str) = "out")) = _; rw [n_turn_out], ?_⟩
            refine ⟨_, rfl, _, rfl, sX, d, xat, _, rfl, _, _, rfl, ix2, _, rfl, ?_⟩
            by_cases dc : d = c
            · subst dc
              rw [if_pos (show [d] = (sg d).cps.toList from rfl)] at q
              have : decide ((⟨#[d]⟩ : Str) = sg d) = true := decide_eq_true rfl
              rw [this]
              exact q
            · rw [if_neg (fun z => dc (by simpa [sg] using z))] at q
              have : decide ((⟨#[d]⟩ : Str) = sg c) = false := decide_eq_false fun z => dc (sg_inj z)
              rw [this]
              refine ⟨_, rfl, _, rfl, _, rfl, sX, _, rfl, _, _, rfl, ix2, ?_⟩
              show rAddD true (.str (L2.cutS X none (some (n : Int)))) (.str (sg c)) M _
              rw [cut1]
              refine add_strs (by show ((ls X).take n).length + 1 ≤ 100000; omega) ?_
              rw [show sg c = os [c] from rfl, app_os]
              refine ⟨_, rfl, _, rfl, _, rfl, sX, ?_⟩
              show rAddD true (.str (os ((ls X).take n ++ [c]))) (.str (L2.cutS X (some ((n + 1 : Nat) : Int)) none)) M Q
              rw [cut2]
              refine add_strs (by show ((ls X).take n ++ [c]).length + ((ls X).drop (n + 1)).length ≤ 100000; rw [List.length_append, List.length_singleton]; omega) ?_
              rw [app_os]
              exact q
      · rw [decide_eq_false (show ¬ (n : Int) ≤ (X.length : Int) by rw [xl]; omega)]
        simp only [stepL] at q
        rw [if_neg (fun z => p1 (by omega))] at q
        exact q
    · rw [decide_eq_false p0]
      simp only [stepL] at q
      rw [if_neg (fun z => p0 z.1)] at q
      exact ⟨_, rfl, q⟩
end K83

set_option maxHeartbeats 4000000
/-! K83h: edited_by, and the law's own. -/
namespace K83
open PySem PySem.Spec DL KB
open L2 (atI ixN)
open PyProof.Rows hiding St signs

theorem for_preD {g : DTG} {tb : DTS} {D : DEnds} {G : Mp → Prop} (all : List DL.D) (I : List DL.D → Rho → Mp → Prop) (hG : ∀ p ρ M, I p ρ M → G M)
    (step : ∀ (pre : List DL.D) (z : DL.D) (suf : List DL.D), pre ++ z :: suf = all → ∀ ρ M, I pre ρ M → ∀ N : Rho → Mp → Prop, (∀ ρ' M', I (pre ++ [z]) ρ' M' → N ρ' M') → g z ρ M fun ρ2 M2 => tb { D with nx := N, ct := N, bk := D.nx } ρ2 M2)
    (fin : ∀ ρ' M', I all ρ' M' → D.nx ρ' M') (zs pre : List DL.D) (ρ : Rho) (M : Mp) (e : pre ++ zs = all) (i : I pre ρ M) : forW g tb D G zs ρ M := by
  have h := for_pre (g := g) (tb := tb) (D := D) (G := G) id all I hG step fin zs pre ρ M e i
  rwa [List.map_id] at h
def doneV (x : List Nat) : DL.D → Option (List Nat)
  | .tup es => if es.length ≤ 200 ∧ es.all formE = true then doneL x es else none
  | _ => none
theorem doneL_app : ∀ (x : List Nat) (pre : List DL.D) (e : DL.D) (suf : List DL.D) (l : List Nat), doneL x pre = some l → doneL x (pre ++ e :: suf) = match stepL l e with | some l' => doneL l' suf | none => none
  | x, [], e, suf, l, h => by cases h; rfl
  | x, p :: pre, e, suf, l, h => by
    simp only [List.cons_append, doneL] at h ⊢
    cases hs : stepL x p with
    | none => rw [hs] at h; cases h
    | some y =>
      rw [hs] at h
      exact doneL_app y pre e suf l h
theorem doneL_snoc (x : List Nat) (pre : List DL.D) (e : DL.D) (l : List Nat) (h : doneL x pre = some l) : doneL x (pre ++ [e]) = stepL l e := by
  rw [doneL_app x pre e [] l h]
  cases stepL l e <;> rfl
def sp_edited_by : DSp := fun ds M Q E => ∃ t v, ds = [t, v] ∧ gd t = true ∧ gd v = true ∧
  (if shortB t = true then ∀ x : Str, t = .str x → (match doneV (ls x) v with | some l => Q (.str (os l)) M | none => E "BadEdits" v M) else E "BadText" t M)
theorem rd_edited_by : ∀ ds M Q E, sp_edited_by ds M Q E → ds.length = 2 ∧ r_edited_by E sp_check sp_tuple sp_is_edit sp_edited { nx := fun _ M' => Q .non M', rt := Q } (dstart N_edited_by ds) M := by
  rintro _ M Q E ⟨t, v, rfl, gt, gv, q⟩
  refine ⟨rfl, t, rfl, t, rfl, gt, ?_⟩
  cases ht : shortB t with
  | false => rw [ht] at q; exact q
  | true =>
    rw [ht] at q
    obtain ⟨x, rfl, hx, _⟩ := short_str ht
    have q' := q x rfl
    clear q
    have lx : (ls x).length = x.cps.size := Array.length_toList
    refine ⟨_, rfl, v, 0, 200, rfl, gv, _, rfl, ?_⟩
    by_cases tp : tupB v 0 200 = true
    case neg =>
      rw [Bool.eq_false_iff.mpr tp]
      have : doneV (ls x) v = none := by
        cases v <;> first | rfl | skip
        rename_i es
        simp only [doneV]
        rw [if_neg]
        intro z
        apply tp
        simp only [tupB, Bool.and_eq_true, decide_eq_true_eq]
        omega
      rw [this] at q'
      exact ⟨_, rfl, q'⟩
    rw [tp]
    cases v <;> first | (simp [tupB] at tp; done) | skip
    rename_i es
    obtain ⟨gl, ga⟩ := gd_tup.mp gv
    have el : es.length ≤ 200 := by simp [tupB] at tp; omega
    refine ⟨_, rfl, ?_⟩
    refine lc_map (fun d => .bl (formE d)) (by exact trivial) _ [] ?_ (small (by simp; omega)) ?_
    · intro d hd K1 K2 hk
      exact ⟨_, rfl, d, rfl, ga d hd, hk⟩
    rw [List.nil_append]
    refine newTr ⟨_, es.map formE, rfl, ?_, ?_⟩
    · show some _ = some _
      rw [List.map_map]
      rfl
    refine ⟨_, rfl, ?_⟩
    have ea : (es.map formE).all id = es.all formE := by rw [List.all_map]; rfl
    rw [ea]
    cases fa : es.all formE with
    | false =>
      have : doneV (ls x) (.tup es) = none := by
        simp only [doneV]
        rw [if_neg fun z => by rw [fa] at z; exact Bool.noConfusion z.2]
      rw [this] at q'
      exact ⟨_, rfl, q'⟩
    | true =>
      have dv : doneV (ls x) (.tup es) = doneL (ls x) es := by
        simp only [doneV]
        rw [if_pos ⟨el, fa⟩]
      rw [dv] at q'
      have form := List.all_eq_true.mp fa
      refine ⟨_, rfl, ?_⟩
      show forW _ _ _ _ es _ _
      refine for_preD es (fun pre ρ M1 => M1 = M ∧ ∃ l o2, ρ = [some (.str (os l)), some (.tup es), o2] ∧ doneL (ls x) pre = some l ∧ l.length ≤ 100 + pre.length) (fun _ _ _ _ => trivial) ?_ ?_ es [] _ _ rfl ⟨rfl, ls x, none, by rw [os_ls]; rfl, rfl, by simp; omega⟩
      · rintro pre z suf hp ρ1 M1 ⟨rfl, l, o2, rfl, d1, l1⟩ N hN
        have zin : z ∈ es := by rw [← hp]; simp
        have pl : pre.length ≤ 200 := by
          have := congrArg List.length hp
          rw [List.length_append] at this
          omega
        refine ⟨_, rfl, _, rfl, os l, z, rfl, ?_, form z zin, ?_⟩
        · show l.toArray.size ≤ 1000
          rw [List.size_toArray]
          omega
        have da := doneL_app (ls x) pre z suf l d1
        rw [hp] at da
        rw [ls_os]
        cases hs : stepL l z with
        | none =>
          rw [hs] at da
          rw [da] at q'
          exact ⟨_, rfl, rfl, _, rfl, _, rfl, q'⟩
        | some l' =>
          have := step_len hs (form z zin)
          refine ⟨_, rfl, rfl, _, rfl, hN _ _ ⟨rfl, l', _, rfl, ?_, ?_⟩⟩
          · rw [doneL_snoc _ _ _ _ d1, hs]
          · rw [List.length_append, List.length_singleton]; omega
      · rintro ρ1 M1 ⟨rfl, l, o2, rfl, d1, l1⟩
        rw [d1] at q'
        exact ⟨_, rfl, q'⟩
def sp_sall : DS1 := fun ds M Q => ds = [] ∧ Q (.str SIG) M
theorem rd_sall : ∀ ds M Q, sp_sall ds M Q → ds.length = 0 ∧ r__law_signs_of_all { nx := fun _ M' => Q .non M', rt := Q } (dstart N__law_signs_of_all ds) M := by
  rintro _ M Q ⟨rfl, q⟩
  exact ⟨rfl, q⟩
end K83

set_option maxHeartbeats 4000000
/-! K83i: the law's own doing of edits. -/
namespace K83
open PySem PySem.Spec DL KB
open L2 (atI ixN)
open PyProof.Rows hiding St signs

theorem in23 (n : Nat) : (([.int 2, .int 3] : List DL.D).any fun y => L2.eqV (vOf y) (vOf (.int (n : Int)))) = decide (n = 2 ∨ n = 3) := by
  have e : ∀ i j : Int, L2.eqV (vOf (.int i)) (vOf (.int j)) = decide (i = j) := fun i j => by
    show (i == j) = _
    by_cases h : i = j
    · subst h; simp
    · simp [h]
  simp only [List.any_cons, List.any_nil, Bool.or_false, e]
  by_cases h2 : n = 2
  · subst h2; simp
  · by_cases h3 : n = 3
    · subst h3; simp
    · rw [decide_eq_false (by omega), decide_eq_false (by omega), decide_eq_false (by omega)]; rfl
theorem n_str {a b : Str} (h : decide (a = b) = false) : ¬ a = b := of_decide_eq_false h
theorem step_law {En : DEnds} {es : List DL.D} {M : Mp} {o3 o4 : Option DL.D} (l : List Nat) (z : DL.D) (small_ : l.length ≤ 1000) (fz : formE z = true) (no : stepL l z = none → En.rt .non M)
    (yes : ∀ l' o3 o4, stepL l z = some l' → En.nx [some (.str (os l')), some (.tup es), some z, o3, o4] M) :
    (dSeq (dAsg (dOp rIxD (dSlot 2) (dC (.int 1))) (dgName 3)) (dSeq (dIfS (dOrT (dNotT (dB (dChain (rInt (fun _ _ => True) fun i j => .bl (decide (i ≤ j))) (rInt (fun _ _ => True) fun i j => .bl (decide (i ≤ j))) (dC (.int 0)) (dSlot 3) (dCB rLen (dCons (dSlot 0) dNil))))) (dAndT (dB (dOp (rEqD2 true) (dOp rIxD (dSlot 2) (dC (.int 0))) (dC (.str "in")))) (dB (dOp (rEqD2 false) (dSlot 3) (dCB rLen (dCons (dSlot 0) dNil)))))) (dRet (dC .non)) dNext) (dSeq (dIfS (dAndT (dB (dOp (rEqD2 false) (dOp rIxD (dSlot 2) (dC (.int 0))) (dC (.str "turn")))) (dB (dOp (rEqD2 false) (dOp rIxD (dSlot 0) (dSlot 3)) (dOp rIxD (dSlot 2) (dC (.int 2)))))) (dRet (dC .non)) dNext) (dSeq (dAsg (dIf (dB (dOp (rEqD2 false) (dCB rLen (dCons (dSlot 2) dNil)) (dC (.int 3)))) (dOp rIxD (dSlot 2) (dC (.int 2))) (dC (.str ""))) (dgName 4)) (dAsg (dOp (rAddD true) (dOp (rAddD true) (dSl true (dSlot 0) dNoPart (dPart (dSlot 3))) (dSlot 4)) (dSl true (dSlot 0) (dPart (dOp (rAddD true) (dSlot 3) (dIf (dB (dOp (rEqD2 false) (dOp rIxD (dSlot 2) (dC (.int 0))) (dC (.str "in")))) (dC (.int 0)) (dC (.int 1))))) dNoPart)) (dgName 0)))))) En [some (.str (os l)), some (.tup es), some z, o3, o4] M := by
  have xl : ((os l).length : Int) = (l.length : Nat) := by show ((l.toArray.size : Nat) : Int) = _; rw [List.size_toArray]
  have sX : (os l).length ≤ sizeLine := small (n := l.length) (by omega)
  have cut1 : ∀ n : Nat, L2.cutS (os l) none (some (n : Int)) = os (l.take n) := fun n => by rw [cutS_os, ls_os, cut_to]
  have cut2 : ∀ n : Nat, L2.cutS (os l) (some (n : Int)) none = os (l.drop n) := fun n => by rw [cutS_os, ls_os, cut_from]
  have tl : ∀ n : Nat, (l.take n).length ≤ 1000 := fun n => by rw [List.length_take]; omega
  have dl : ∀ n : Nat, (l.drop n).length ≤ 1000 := fun n => by rw [List.length_drop]; omega
  rcases form_shape fz with ⟨p, rfl⟩ | ⟨w, p, c, hw, hc, rfl⟩
  · refine ⟨_, rfl, _, _, rfl, ix1, ?_⟩
    refine ⟨_, rfl, _, _, rfl, rfl, trivial, decide (0 ≤ p), rfl, ?_⟩
    by_cases p0 : 0 ≤ p
    · rw [decide_eq_true p0]
      obtain ⟨n, rfl⟩ := Int.eq_ofNat_of_zero_le p0
      refine ⟨_, rfl, sX, _, _, rfl, rfl, trivial, _, rfl, ?_⟩
      by_cases p1 : n ≤ l.length
      · rw [decide_eq_true (show (n : Int) ≤ ((os l).length : Int) by rw [xl]; omega)]
        refine ⟨_, rfl, _, _, rfl, ix0, true, by show D.bl (!decide (("out" : Str) = "in")) = _; rw [n_out_in]; rfl, ?_⟩
        refine ⟨_, rfl, _, rfl, sX, _, rfl, ?_⟩
        by_cases p2 : n = l.length
        · rw [decide_eq_true (show (n : Int) = ((os l).length : Int) by rw [xl]; omega)]
          simp only [stepL] at no
          exact no (if_neg (by omega))
        · rw [decide_eq_false (show ¬ (n : Int) = ((os l).length : Int) by rw [xl]; omega)]
          simp only [stepL] at yes
          refine ⟨_, rfl, _, _, rfl, ix0, false, by show D.bl (decide (("out" : Str) = "turn")) = _; rw [n_out_turn], ?_⟩
          refine ⟨_, rfl, _, rfl, false, rfl, ?_⟩
          refine ⟨_, rfl, _, rfl, _, rfl, sX, _, rfl, ?_⟩
          have t1 := tl n
          have t2 := dl (n + 1)
          show rAddD true (.str (L2.cutS (os l) none (some (n : Int)))) (.str (os [])) M _
          rw [cut1]
          refine add_strs (by show (l.take n).length + 0 ≤ 100000; omega) ?_
          rw [app_os, List.append_nil]
          refine ⟨_, rfl, _, rfl, _, rfl, _, _, rfl, ix0, false, by show D.bl (decide (("out" : Str) = "in")) = _; rw [n_out_in], ?_⟩
          refine ⟨_, rfl, sX, ?_⟩
          show rAddD true (.str (os (l.take n))) (.str (L2.cutS (os l) (some ((n + 1 : Nat) : Int)) none)) M _
          rw [cut2]
          refine add_strs (by show (l.take n).length + (l.drop (n + 1)).length ≤ 100000; omega) ?_
          rw [app_os]
          exact yes _ _ _ (if_pos (by omega))
      · rw [decide_eq_false (show ¬ (n : Int) ≤ ((os l).length : Int) by rw [xl]; omega)]
        simp only [stepL] at no
        exact no (if_neg (by omega))
    · rw [decide_eq_false p0]
      simp only [stepL] at no
      exact ⟨_, rfl, no (if_neg (by omega))⟩
  · refine ⟨_, rfl, _, _, rfl, ix1, ?_⟩
    refine ⟨_, rfl, _, _, rfl, rfl, trivial, decide (0 ≤ p), rfl, ?_⟩
    by_cases p0 : 0 ≤ p
    · rw [decide_eq_true p0]
      obtain ⟨n, rfl⟩ := Int.eq_ofNat_of_zero_le p0
      refine ⟨_, rfl, sX, _, _, rfl, rfl, trivial, _, rfl, ?_⟩
      have t1 := tl n
      have t2 := dl n
      have t3 := dl (n + 1)
      by_cases p1 : n ≤ l.length
      · rw [decide_eq_true (show (n : Int) ≤ ((os l).length : Int) by rw [xl]; omega)]
        rcases hw with rfl | rfl
        · refine ⟨_, rfl, _, _, rfl, ix0, false, by show D.bl (!decide (("in" : Str) = "in")) = _; rw [decide_eq_true rfl]; rfl, ?_⟩
          refine ⟨_, rfl, _, _, rfl, ix0, false, by show D.bl (decide (("in" : Str) = "turn")) = _; rw [n_in_turn], ?_⟩
          refine ⟨_, rfl, _, rfl, true, rfl, ?_⟩
          refine ⟨_, rfl, _, _, rfl, ix2, ?_⟩
          refine ⟨_, rfl, _, rfl, _, rfl, sX, _, rfl, ?_⟩
          show rAddD true (.str (L2.cutS (os l) none (some (n : Int)))) (.str (sg c)) M _
          rw [cut1]
          refine add_strs (by show (l.take n).length + 1 ≤ 100000; omega) ?_
          rw [show sg c = os [c] from rfl, app_os]
          refine ⟨_, rfl, _, rfl, _, rfl, _, _, rfl, ix0, true, by show D.bl (decide (("in" : Str) = "in")) = _; rw [decide_eq_true rfl], ?_⟩
          refine ⟨_, rfl, sX, ?_⟩
          show rAddD true (.str (os (l.take n ++ [c]))) (.str (L2.cutS (os l) (some ((n : Nat) : Int)) none)) M _
          rw [cut2]
          refine add_strs (by show (l.take n ++ [c]).length + (l.drop n).length ≤ 100000; rw [List.length_append, List.length_singleton]; omega) ?_
          rw [app_os]
          refine yes _ _ _ ?_
          simp only [stepL]
          rw [if_pos ⟨by omega, by omega, by simp⟩, if_pos trivial]
          rfl
        · refine ⟨_, rfl, _, _, rfl, ix0, true, by show D.bl (!decide (("turn" : Str) = "in")) = _; rw [n_turn_in]; rfl, ?_⟩
          refine ⟨_, rfl, _, rfl, sX, _, rfl, ?_⟩
          by_cases p2 : n = l.length
          · rw [decide_eq_true (show (n : Int) = ((os l).length : Int) by rw [xl]; omega)]
            refine no ?_
            simp only [stepL]
            rw [if_neg (fun z => z.2.2 ⟨of_decide_eq_false n_turn_in, by omega⟩)]
          · rw [decide_eq_false (show ¬ (n : Int) = ((os l).length : Int) by rw [xl]; omega)]
            have dx : l.drop n = l[n] :: l.drop (n + 1) := List.drop_eq_getElem_cons (by omega)
            have xat : atI l (n : Int) = some l[n] := L2.atI_nat (List.getElem?_eq_getElem (by omega))
            generalize l[n] = d at dx xat
            have st : stepL l (.tup [.str "turn", .int (n : Nat), .str (sg c)]) = if [d] = [c] then none else some (l.take n ++ [c] ++ l.drop (n + 1)) := by
              simp only [stepL]
              rw [if_pos ⟨by omega, by omega, fun z => p2 (by omega)⟩, if_neg (of_decide_eq_false n_turn_in)]
              simp only [Int.toNat_natCast, dx, List.take_succ_cons, List.take_zero]
              rfl
            refine ⟨_, rfl, _, _, rfl, ix0, true, by show D.bl (decide (("turn" : Str) = "turn")) = _; rw [decide_eq_true rfl], ?_⟩
            refine ⟨_, rfl, _, rfl, sX, d, xat, _, rfl, _, _, rfl, ix2, _, rfl, ?_⟩
            by_cases dc : d = c
            · subst dc
              have : decide ((⟨#[d]⟩ : Str) = sg d) = true := decide_eq_true rfl
              rw [if_neg Bool.false_ne_true, this]
              exact no (by rw [st, if_pos rfl])
            · have : decide ((⟨#[d]⟩ : Str) = sg c) = false := decide_eq_false fun z => dc (sg_inj z)
              rw [if_neg Bool.false_ne_true, this]
              refine ⟨_, rfl, _, rfl, true, rfl, ?_⟩
              refine ⟨_, rfl, _, _, rfl, ix2, ?_⟩
              refine ⟨_, rfl, _, rfl, _, rfl, sX, _, rfl, ?_⟩
              show rAddD true (.str (L2.cutS (os l) none (some (n : Int)))) (.str (sg c)) M _
              rw [cut1]
              refine add_strs (by show (l.take n).length + 1 ≤ 100000; omega) ?_
              rw [show sg c = os [c] from rfl, app_os]
              refine ⟨_, rfl, _, rfl, _, rfl, _, _, rfl, ix0, false, by show D.bl (decide (("turn" : Str) = "in")) = _; rw [n_turn_in], ?_⟩
              refine ⟨_, rfl, sX, ?_⟩
              show rAddD true (.str (os (l.take n ++ [c]))) (.str (L2.cutS (os l) (some ((n + 1 : Nat) : Int)) none)) M _
              rw [cut2]
              refine add_strs (by show (l.take n ++ [c]).length + (l.drop (n + 1)).length ≤ 100000; rw [List.length_append, List.length_singleton]; omega) ?_
              rw [app_os]
              exact yes _ _ _ (by rw [st, if_neg (fun z => dc (by simpa using z))])
      · rw [decide_eq_false (show ¬ (n : Int) ≤ ((os l).length : Int) by rw [xl]; omega)]
        refine no ?_
        simp only [stepL]
        rw [if_neg (fun z => p1 (by omega))]
    · rw [decide_eq_false p0]
      refine ⟨_, rfl, no ?_⟩
      simp only [stepL]
      rw [if_neg (fun z => p0 z.1)]
def sp_ldone : DS1 := fun ds M Q => ∃ X v, ds = [.str X, v] ∧ X.cps.size ≤ 100 ∧ gd v = true ∧ Q (optD (doneV (ls X) v)) M
theorem rd_ldone : ∀ ds M Q, sp_ldone ds M Q → ds.length = 2 ∧ r__law_done sp_sall { nx := fun _ M' => Q .non M', rt := Q } (dstart N__law_done ds) M := by
  rintro _ M Q ⟨X, v, rfl, hX, gv, q⟩
  refine ⟨rfl, ?_⟩
  have lX : (ls X).length = X.cps.size := Array.length_toList
  cases v
  case tup es =>
    obtain ⟨gl, ga⟩ := gd_tup.mp gv
    refine ⟨_, rfl, _, rfl, _, rfl, ?_⟩
    refine ⟨_, rfl, es, rfl, _, _, rfl, rfl, trivial, _, rfl, ?_⟩
    by_cases el : es.length ≤ 200
    case neg =>
      rw [decide_eq_true (by omega)]
      simp only [doneV] at q
      rw [if_neg (fun z => el z.1)] at q
      exact q
    rw [decide_eq_false (by omega)]
    have bad : ∀ z ∈ es, formE z = false → Q .non M := fun z hz f => by
      have : doneV (ls X) (.tup es) = none := by
        simp only [doneV]
        rw [if_neg]
        intro w
        have := List.all_eq_true.mp w.2 z hz
        rw [f] at this; cases this
      rw [this] at q
      exact q
    refine ⟨_, rfl, ?_⟩
    show forW _ _ _ _ es _ _
    refine for_preD es (fun pre ρ M1 => M1 = M ∧ ∃ o2, ρ = [some (.str X), some (.tup es), o2, none, none] ∧ pre.all formE = true) (fun _ _ _ _ => trivial) ?_ ?_ es [] _ _ rfl ⟨rfl, none, rfl, rfl⟩
    · rintro pre z suf hp ρ1 M1 ⟨rfl, o2, rfl, fp⟩ N hN
      have zin : z ∈ es := by rw [← hp]; simp
      have gz := ga z zin
      have bz := bad z zin
      have ok : formE z = true → N [some (.str X), some (.tup es), some z, none, none] M1 := fun f => hN _ _ ⟨rfl, _, rfl, by rw [List.all_append, fp]; simp [f]⟩
      clear hN
      cases z
      case tup xs =>
        obtain ⟨gl2, gx⟩ := gd_tup.mp gz
        refine ⟨_, rfl, _, rfl, _, rfl, ?_⟩
        refine ⟨_, rfl, xs, rfl, small (by simp), [.int 2, .int 3], rfl, rfl, rfl, _, rfl, ?_⟩
        rw [if_pos rfl, in23]
        rcases xs with _ | ⟨a, _ | ⟨b, _ | ⟨c, _ | ⟨e, r⟩⟩⟩⟩
        · exact bz rfl
        · exact bz (by cases a <;> rfl)
        · have g1 := gx a (by simp)
          have g2 := gx b (by simp)
          cases a
          case str w =>
            refine ⟨_, rfl, _, _, rfl, ix0, _, rfl, _, rfl, ?_⟩
            cases b
            case int p =>
              refine ⟨_, rfl, _, _, rfl, ix1, _, rfl, _, rfl, ?_⟩
              refine ⟨_, rfl, _, _, rfl, ix1, _, rfl, _, rfl, ?_⟩
              refine ⟨_, rfl, _, _, rfl, ix0, _, rfl, _, rfl, ?_⟩
              by_cases hw : w = "out"
              · subst hw
                refine ⟨false, by show D.bl (!decide ((decide (("out" : Str) = "out")) = (decide (((2 : Nat) : Int) = 2)))) = _; rw [decide_eq_true rfl]; rfl, ?_⟩
                refine ⟨_, rfl, _, _, rfl, ix0, small (by simp), in_texts (neg := true) (ws := ["in", "out", "turn"]) ⟨false, by show D.bl (!decide (("out" : Str) ∈ (["in", "out", "turn"] : List Str))) = _; rw [decide_eq_true (by simp)]; rfl, ?_⟩⟩
                refine ⟨_, rfl, _, rfl, false, rfl, ?_⟩
                exact ok (by simp [formE])
              · refine ⟨true, by show D.bl (!decide ((decide (w = ("out" : Str))) = (decide (((2 : Nat) : Int) = 2)))) = _; rw [decide_eq_false hw]; rfl, ?_⟩
                exact bz (by simp [formE, hw])
            all_goals first | (simp [gd] at g2; done) | exact ⟨_, rfl, _, _, rfl, ix1, _, rfl, _, rfl, bz rfl⟩ | exact ⟨_, rfl, _, _, rfl, ix1, _, rfl, _, rfl, _, rfl, _, _, rfl, ix1, _, rfl, _, rfl, bz rfl⟩
          all_goals first | (simp [gd] at g1; done) | exact ⟨_, rfl, _, _, rfl, ix0, _, rfl, _, rfl, bz (by cases b <;> rfl)⟩
        · have g1 := gx a (by simp)
          have g2 := gx b (by simp)
          have g3 := gx c (by simp)
          cases a
          case str w =>
            refine ⟨_, rfl, _, _, rfl, ix0, _, rfl, _, rfl, ?_⟩
            cases b
            case int p =>
              refine ⟨_, rfl, _, _, rfl, ix1, _, rfl, _, rfl, ?_⟩
              refine ⟨_, rfl, _, _, rfl, ix1, _, rfl, _, rfl, ?_⟩
              refine ⟨_, rfl, _, _, rfl, ix0, _, rfl, _, rfl, ?_⟩
              by_cases hw : w = "out"
              · subst hw
                refine ⟨true, by show D.bl (!decide ((decide (("out" : Str) = "out")) = (decide (((3 : Nat) : Int) = 2)))) = _; rw [decide_eq_true rfl]; rfl, ?_⟩
                refine bz ?_
                cases c <;> first | rfl | (simp only [formE, n_out_in, n_out_turn]; rfl)
              refine ⟨false, by show D.bl (!decide ((decide (w = ("out" : Str))) = (decide (((3 : Nat) : Int) = 2)))) = _; rw [decide_eq_false hw]; rfl, ?_⟩
              by_cases hv : w = "in" ∨ w = "turn"
              case neg =>
                have nin : ¬ w ∈ (["in", "out", "turn"] : List Str) := fun z => by
                  simp at z
                  rcases z with z | z | z
                  · exact hv (.inl z)
                  · exact hw z
                  · exact hv (.inr z)
                refine ⟨_, rfl, _, _, rfl, ix0, small (by simp), in_texts (neg := true) (ws := ["in", "out", "turn"]) ⟨true, by show D.bl (!decide (w ∈ (["in", "out", "turn"] : List Str))) = _; rw [decide_eq_false nin]; rfl, ?_⟩⟩
                refine bz ?_
                cases c <;> first | rfl | (simp only [formE, decide_eq_false (fun z => hv (.inl z)), decide_eq_false (fun z => hv (.inr z))]; rfl)
              have din : w ∈ (["in", "out", "turn"] : List Str) := by
                rcases hv with rfl | rfl <;> simp
              have hb : (decide (w = "in") || decide (w = "turn")) = true := by
                rcases hv with z | z
                · rw [decide_eq_true z]; rfl
                · rw [decide_eq_true z, Bool.or_true]
              refine ⟨_, rfl, _, _, rfl, ix0, small (by simp), in_texts (neg := true) (ws := ["in", "out", "turn"]) ⟨false, by show D.bl (!decide (w ∈ (["in", "out", "turn"] : List Str))) = _; rw [decide_eq_true din]; rfl, ?_⟩⟩
              refine ⟨_, rfl, _, rfl, true, rfl, ?_⟩
              cases c
              case str s =>
                have fz : formE (.tup [.str w, .int p, .str s]) = oneS s := by simp only [formE, hb, Bool.true_and]
                refine ⟨_, rfl, _, _, rfl, ix2, _, rfl, _, rfl, ?_⟩
                have ss : s.length ≤ sizeLine := small (gd_str.mp g3).1
                refine ⟨_, rfl, _, _, rfl, ix2, ss, _, rfl, ?_⟩
                by_cases s1 : s.cps.size = 1
                · have sl : (s.length : Int) = 1 := by show ((s.cps.size : Nat) : Int) = 1; rw [s1]; rfl
                  rw [if_pos rfl, decide_eq_true sl]
                  obtain ⟨c, rfl⟩ : ∃ c, s = sg c := by
                    obtain ⟨⟨l⟩⟩ := s
                    match l, s1 with
                    | [c], _ => exact ⟨c, rfl⟩
                  refine ⟨_, rfl, _, _, rfl, ix2, rfl, c, rfl, _, rfl, ?_⟩
                  have oc : oneS (sg c) = decide (c ∈ SIG.cps.toList) := by
                    unfold oneS sg
                    simp [okSign]
                  rw [if_pos rfl]
                  rw [oc] at fz
                  cases h : decide (c ∈ SIG.cps.toList) with
                  | true => exact ok (fz.trans h)
                  | false => exact bz (fz.trans h)
                · have sl : ¬ (s.length : Int) = 1 := by show ¬ ((s.cps.size : Nat) : Int) = 1; omega
                  rw [if_pos rfl, decide_eq_false sl]
                  exact bz (by rw [fz]; unfold oneS; rw [decide_eq_false s1]; rfl)
              all_goals first | (simp [gd] at g3; done) | exact ⟨_, rfl, _, _, rfl, ix2, _, rfl, _, rfl, bz rfl⟩
            all_goals first | (simp [gd] at g2; done) | exact ⟨_, rfl, _, _, rfl, ix1, _, rfl, _, rfl, bz rfl⟩ | exact ⟨_, rfl, _, _, rfl, ix1, _, rfl, _, rfl, _, rfl, _, _, rfl, ix1, _, rfl, _, rfl, bz rfl⟩
          all_goals first | (simp [gd] at g1; done) | exact ⟨_, rfl, _, _, rfl, ix0, _, rfl, _, rfl, bz (by cases b <;> rfl)⟩
        · rw [decide_eq_false (by simp only [List.length_cons]; omega)]
          exact bz (by cases a <;> first | rfl | (cases b <;> first | rfl | (cases c <;> rfl)))
      all_goals first | (simp [gd] at gz; done) | exact ⟨_, rfl, _, rfl, _, rfl, bz rfl⟩
    · rintro ρ1 M1 ⟨rfl, o2, rfl, fa⟩
      have dv : doneV (ls X) (.tup es) = doneL (ls X) es := by
        simp only [doneV]
        rw [if_pos ⟨el, fa⟩]
      rw [dv] at q
      have form := List.all_eq_true.mp fa
      refine ⟨_, rfl, ?_⟩
      show forW _ _ _ _ es _ _
      refine for_preD es (fun pre ρ M2 => M2 = M1 ∧ ∃ l o2 o3 o4, ρ = [some (.str (os l)), some (.tup es), o2, o3, o4] ∧ doneL (ls X) pre = some l ∧ l.length ≤ 100 + pre.length) (fun _ _ _ _ => trivial) ?_ ?_ es [] _ _ rfl ⟨rfl, ls X, _, none, none, by rw [os_ls], rfl, by simp; omega⟩
      · rintro pre z suf hp ρ2 M2 ⟨rfl, l, o2, o3, o4, rfl, d1, l1⟩ N hN
        have zin : z ∈ es := by rw [← hp]; simp
        have pl : pre.length ≤ 200 := by
          have := congrArg List.length hp
          rw [List.length_append] at this
          omega
        have da := doneL_app (ls X) pre z suf l d1
        rw [hp] at da
        have no : stepL l z = none → Q .non M2 := fun h => by rw [h] at da; rw [da] at q; exact q
        have yes : ∀ l' o3 o4, stepL l z = some l' → N [some (.str (os l')), some (.tup es), some z, o3, o4] M2 := fun l' o3 o4 h => by
          have := step_len h (form z zin)
          exact hN _ _ ⟨rfl, l', _, _, _, rfl, by rw [doneL_snoc _ _ _ _ d1, h], by rw [List.length_append, List.length_singleton]; omega⟩
        clear hN
        exact step_law l z (by omega) (form z zin) no yes
      · rintro ρ2 M2 ⟨rfl, l, o2, o3, o4, rfl, d1, l1⟩
        rw [d1] at q
        exact ⟨_, rfl, q⟩
  all_goals first | (simp [gd] at gv; done) | exact ⟨_, rfl, _, rfl, _, rfl, q⟩
end K83

set_option maxHeartbeats 4000000
/-! K83j: the law's own distance, from the front. -/
namespace K83
open PySem PySem.Spec DL KB
open L2 (atI ixN)
open PyProof.Rows hiding St signs

/-- the distances of P from the beginnings of ys, to the k-th -/
def fpart (P ys : List Nat) (k : Nat) : List DL.D := (List.range (k + 1)).map fun j => .int (dist P (ys.take j).reverse : Nat)
theorem fp_snoc (P ys : List Nat) (k : Nat) : fpart P ys (k + 1) = fpart P ys k ++ [.int (dist P (ys.take (k + 1)).reverse : Nat)] := by
  unfold fpart
  rw [List.range_succ, List.map_append]
  rfl
theorem fp_len (P ys : List Nat) (k : Nat) : (fpart P ys k).length = k + 1 := by unfold fpart; simp
theorem fp_at (P ys : List Nat) {k j : Nat} (h : j ≤ k) : atI (fpart P ys k) (j : Int) = some (.int (dist P (ys.take j).reverse : Nat)) := by
  refine L2.atI_nat ?_
  unfold fpart
  rw [List.getElem?_map, List.getElem?_range (by omega)]
  rfl
theorem fp_nil (ys : List Nat) : fpart [] ys ys.length = rgD 0 (ys.length + 1) := by
  unfold fpart rgD
  refine List.map_congr_left fun j hj => ?_
  have := List.mem_range.mp hj
  rw [dist_nil, List.length_reverse, List.length_take]
  congr 1
  omega
theorem fp_last (P ys : List Nat) : atI (fpart P ys ys.length) (-1) = some (.int (dist P ys.reverse : Nat)) := by
  cases h : ys.length with
  | zero =>
    have : ys = [] := List.length_eq_zero_iff.mp h
    subst this
    rfl
  | succ n =>
    rw [fp_snoc, L2.atI_last, ← h, List.take_length]
theorem zip_pre {l : List Nat} : ∀ {i : Nat} {pre suf : List (Nat × Nat)} {z : Nat × Nat}, pre ++ z :: suf = l.zipIdx i → z.2 = i + pre.length ∧ pre.map Prod.fst ++ z.1 :: suf.map Prod.fst = l := by
  induction l with
  | nil => intro i pre suf z h; simp at h
  | cons x l ih =>
    intro i pre suf z h
    rw [List.zipIdx_cons] at h
    cases pre with
    | nil =>
      simp only [List.nil_append, List.cons.injEq] at h
      obtain ⟨rfl, rfl⟩ := h
      refine ⟨rfl, ?_⟩
      simp
    | cons p pre =>
      simp only [List.cons_append, List.cons.injEq] at h
      obtain ⟨rfl, h⟩ := h
      obtain ⟨h1, h2⟩ := ih h
      refine ⟨by rw [h1, List.length_cons]; omega, ?_⟩
      simp only [List.map_cons, List.cons_append, h2]
theorem num_signs (x : Str) : numD (DL.signs x) = (ls x).zipIdx.map fun p => D.tup [.int (p.2 : Nat), .str (sg p.1)] := by
  unfold numD DL.signs
  rw [List.zipIdx_map, List.map_map]
  rfl
theorem lst_ne {M M' : Mp} {v : DL.D} {a : Addr} {xs : List DL.D} (h : lstOf M v = some xs) (ne : v ≠ .ref a) (k : ∀ b, b ≠ a → M' b = M b) : lstOf M' v = some xs := by
  cases v <;> first | exact h | skip
  rename_i b
  have : M' b = M b := k b fun e => ne (by rw [e])
  show mol (M' b) = _
  rw [this]; exact h
theorem lst_new {M : Mp} {v : DL.D} {a : Addr} {xs : List DL.D} (h : lstOf M v = some xs) (n : M a = none) : v ≠ .ref a := by
  rintro rfl
  have h' : mol (M a) = some xs := h
  rw [n] at h'
  cases h'
theorem lst_seq {M : Mp} {v : DL.D} {xs : List DL.D} (h : lstOf M v = some xs) : seqOf M v = some xs := by
  cases v <;> first | exact h | cases h
theorem ix_seq {M : Mp} {v : DL.D} {xs : List DL.D} {i : Int} {d : DL.D} {Q : DK} (h : lstOf M v = some xs) (e : atI xs i = some d) (q : Q d M) : DL.rIxD v (.int i) M Q := by
  cases v <;> first | (cases h; done) | exact ⟨_, _, lst_seq h, e, q⟩
def sp_nd1 : DS1 := fun ds M Q => ∃ X Y : Str, ds = [.str X, .str Y] ∧ X.cps.size ≤ 200 ∧ Y.cps.size ≤ 200 ∧ ∀ M', SubM M M' → Q (.int (dist (ls X) (ls Y) : Nat)) M'
def sp_nd : DS1 := fun ds M Q => ∃ X Y : Str, ds = [.str X, .str Y] ∧ X.cps.size ≤ 200 ∧ Y.cps.size ≤ 200 ∧ Q (.int (dist (ls X) (ls Y) : Nat)) M
theorem wk_nd : ∀ ds M Q, sp_nd ds M Q → sp_nd1 ds M fun d M1 => ∃ M2, SubM M2 M1 ∧ Q d M2 := by
  rintro _ M Q ⟨X, Y, rfl, h1, h2, q⟩
  exact ⟨X, Y, rfl, h1, h2, fun M' s => ⟨M, s, q⟩⟩
theorem rd_nd : ∀ ds M Q, sp_nd1 ds M Q → ds.length = 2 ∧ r__law_n_distance { nx := fun _ M' => Q .non M', rt := Q } (dstart N__law_n_distance ds) M := by
  rintro _ M Q ⟨X, Y, rfl, hX, hY, q⟩
  refine ⟨rfl, ?_⟩
  have lX : (ls X).length = X.cps.size := Array.length_toList
  have lY : (ls Y).length = Y.cps.size := Array.length_toList
  have yl : (Y.length : Int) = ((ls Y).length : Nat) := by rw [lY]; rfl
  refine ⟨_, rfl, small (n := Y.cps.size) (by omega), _, rfl, by rw [yl]; omega, by rw [yl]; omega, newTr ?_⟩
  have en : ((Y.length : Int) + 1).toNat = (ls Y).length + 1 := by rw [yl]; omega
  rw [en, ← fp_nil]
  refine ⟨_, rfl, X, rfl, ?_⟩
  show forW _ _ _ _ (numD (DL.signs X)) _ _
  rw [num_signs]
  refine for_pre (fun p : Nat × Nat => D.tup [.int (p.2 : Nat), .str (sg p.1)]) (ls X).zipIdx
    (fun pre ρ M1 => ∃ rv o3 o4 o5 o6 o7, ρ = [some (.str X), some (.str Y), some rv, o3, o4, o5, o6, o7] ∧ lstOf M1 rv = some (fpart (pre.map Prod.fst).reverse (ls Y) (ls Y).length) ∧ SubM M M1)
    (fun _ _ _ _ => trivial) ?_ ?_ _ [] _ _ rfl ⟨_, _, _, _, _, _, rfl, rfl, SubM.refl M⟩
  · rintro pre ⟨c, i⟩ suf hp ρ1 M1 ⟨rv, o3, o4, o5, o6, o7, rfl, e1, s1⟩ N hN
    obtain ⟨hi, hl⟩ := zip_pre hp
    simp only [Nat.zero_add] at hi
    subst hi
    obtain ⟨P, hP⟩ : ∃ P, P = (pre.map Prod.fst).reverse := ⟨_, rfl⟩
    have lP : P.length = pre.length := by rw [hP]; simp
    rw [← hP] at e1
    refine ⟨_, rfl, rfl, _, _, rfl, _, _, rfl, rfl, ?_⟩
    refine ⟨_, rfl, small (by simp), fun aL hL => ?_⟩
    have hL0 := SubM.none s1 hL
    have ne := lst_new e1 hL
    have L0 : mu M1 aL (.lst [D.int ((pre.length : Nat) + 1)]) aL = some (.lst (fpart (c :: P) (ls Y) 0)) := by
      rw [mu_same]
      unfold fpart
      simp only [Nat.zero_add, List.range_one, List.map_cons, List.map_nil, List.take_zero, List.reverse_nil]
      rw [dist_nil2, List.length_cons, lP]
      rfl
    refine ⟨_, rfl, Y, rfl, ?_⟩
    show forW _ _ _ _ (numD (DL.signs Y)) _ _
    rw [num_signs]
    refine for_pre (fun p : Nat × Nat => D.tup [.int (p.2 : Nat), .str (sg p.1)]) (ls Y).zipIdx
      (fun p2 ρ M2 => ∃ o6 o7, ρ = [some (.str X), some (.str Y), some rv, some (.int (pre.length : Nat)), some (.str (sg c)), some (.ref aL), o6, o7] ∧ M2 aL = some (.lst (fpart (c :: P) (ls Y) p2.length)) ∧ (∀ b, b ≠ aL → M2 b = M1 b) ∧ SubM M M2)
      (fun _ _ _ _ => trivial) ?_ ?_ _ [] _ _ rfl ⟨_, _, rfl, L0, fun b hb => mu_ne hb, s1.mu hL0 _⟩
    · rintro p2 ⟨d, j⟩ suf2 hp2 ρ2 M2 ⟨o6, o7, rfl, r1, r2, r3⟩ N2 hN2
      obtain ⟨hj, hl2⟩ := zip_pre hp2
      simp only [Nat.zero_add] at hj
      subst hj
      have jl : p2.length < (ls Y).length := by rw [← hl2]; simp
      have dj : (ls Y).take (p2.length + 1) = (ls Y).take p2.length ++ [d] := by
        have : (ls Y)[p2.length]? = some d := by
          rw [← hl2, List.getElem?_append_right (by simp)]
          simp
        rw [List.take_succ, this]; rfl
      have rw1 : lstOf M2 rv = some (fpart P (ls Y) (ls Y).length) := lst_ne e1 ne r2
      have a0 := fp_at P (ls Y) (k := (ls Y).length) (j := p2.length) (by omega)
      have a1 : atI (fpart P (ls Y) (ls Y).length) ((p2.length : Int) + 1) = some (.int (dist P (d :: ((ls Y).take p2.length).reverse) : Nat)) := by
        have := fp_at P (ls Y) (k := (ls Y).length) (j := p2.length + 1) (by omega)
        rw [Int.natCast_add, dj, List.reverse_append] at this
        exact this
      have a2 := fp_at (c :: P) (ls Y) (k := p2.length) (j := p2.length) (Nat.le_refl _)
      refine ⟨_, rfl, rfl, _, _, rfl, _, _, rfl, rfl, ?_⟩
      refine ⟨_, rfl, by show (mol (M2 aL)).isSome = true; rw [r1]; rfl, ?_⟩
      refine ⟨_, rfl, _, rfl, ix_seq rw1 a0 ?_⟩
      refine ⟨_, rfl, _, rfl, ?_⟩
      refine ⟨_, rfl, _, rfl, ix_seq rw1 a1 ?_⟩
      refine ⟨_, rfl, _, rfl, ⟨_, _, by show mol (M2 aL) = _; rw [r1]; rfl, a2, ?_⟩⟩
      refine ⟨_, _, _, rfl, ?_⟩
      have tv : ((dist P ((ls Y).take p2.length).reverse : Nat) : Int) + (if (!decide ((sg c) = (sg d : Str))) = true then 1 else 0) = ((dist P ((ls Y).take p2.length).reverse + (if c = d then 0 else 1) : Nat) : Int) := by
        by_cases e : c = d
        · subst e
          have : decide (sg c = sg c) = true := decide_eq_true rfl
          rw [this]; simp
        · have : decide (sg c = sg d) = false := decide_eq_false fun h => e (sg_inj h)
          rw [this]; simp [e]
      have mv := min3 (dist P ((ls Y).take p2.length).reverse + (if c = d then 0 else 1)) (dist P (d :: ((ls Y).take p2.length).reverse)) (dist (c :: P) ((ls Y).take p2.length).reverse)
      rw [← tv, ← dist_cons] at mv
      refine ⟨aL, _, _, rfl, rfl, r1, by rw [fp_len, sizeLine_eq]; omega, ?_⟩
      refine hN2 _ _ ⟨_, _, rfl, ?_, fun b hb => by rw [mu_ne hb]; exact r2 b hb, r3.mu hL0 _⟩
      rw [mu_same, List.length_append, List.length_singleton, fp_snoc, dj, List.reverse_append]
      have mv' := congrArg D.int mv
      show some (MO.lst (_ ++ [_])) = some (MO.lst (_ ++ [D.int ((dist (c :: P) (d :: ((ls Y).take p2.length).reverse) : Nat) : Int)]))
      rw [← mv']
      rfl
    · rintro ρ2 M2 ⟨o6, o7, rfl, r1, r2, r3⟩
      rw [List.length_zipIdx] at r1
      refine ⟨_, rfl, hN _ _ ⟨_, _, _, _, _, _, rfl, ?_, r3⟩⟩
      show mol (M2 aL) = _
      rw [r1, List.map_append, List.reverse_append, ← hP]
      rfl
  · rintro ρ1 M1 ⟨rv, o3, o4, o5, o6, o7, rfl, e1, s1⟩
    have e2 : ((ls X).zipIdx.map Prod.fst) = ls X := by rw [List.zipIdx_map_fst]
    rw [e2] at e1
    refine ⟨_, rfl, 1, rfl, ix_seq e1 (fp_last _ _) ?_⟩
    rw [dist_rev]
    exact q M1 s1
end K83

set_option maxHeartbeats 4000000
/-! K83k: what is heard of edits. -/
namespace K83
open PySem PySem.Spec DL KB
open L2 (atI ixN)
open PyProof.Rows hiding St signs

theorem step_ok {x l : List Nat} {e : DL.D} (hx : ∀ c ∈ x, okSign c = true) (f : formE e = true) (h : stepL x e = some l) : ∀ c ∈ l, okSign c = true := by
  have pick : ∀ (n m : Nat) (w : List Nat), (∀ c ∈ w, okSign c = true) → ∀ c ∈ x.take n ++ w ++ x.drop m, okSign c = true := fun n m w hw c hc => by
    rcases List.mem_append.mp hc with hc | hc
    · rcases List.mem_append.mp hc with hc | hc
      · exact hx c (List.mem_of_mem_take hc)
      · exact hw c hc
    · exact hx c (List.mem_of_mem_drop hc)
  rcases form_shape f with ⟨p, rfl⟩ | ⟨w, p, c, hw, hc, rfl⟩
  · simp only [stepL] at h
    split at h
    · cases h
      have := pick p.toNat (p.toNat + 1) [] (fun c h => nomatch h)
      rwa [List.append_nil] at this
    · cases h
  · have hs : ∀ d ∈ (sg c).cps.toList, okSign d = true := fun d hd => by
      have : d = c := by simpa [sg] using hd
      rw [this]; exact hc
    simp only [stepL] at h
    split at h
    · split at h
      · cases h; exact pick _ _ _ hs
      · split at h
        · cases h
        · cases h; exact pick _ _ _ hs
    · cases h
theorem done_ok : ∀ (es : List DL.D) (x l : List Nat), (∀ c ∈ x, okSign c = true) → es.all formE = true → doneL x es = some l → (∀ c ∈ l, okSign c = true) ∧ l.length ≤ x.length + es.length
  | [], x, l, hx, _, h => by cases h; exact ⟨hx, by simp⟩
  | e :: es, x, l, hx, f, h => by
    rw [List.all_cons, Bool.and_eq_true] at f
    simp only [doneL] at h
    cases hs : stepL x e with
    | none => rw [hs] at h; cases h
    | some y =>
      rw [hs] at h
      obtain ⟨h1, h2⟩ := done_ok es y l (step_ok hx f.1 hs) f.2 h
      have := step_len hs f.1
      exact ⟨h1, by rw [List.length_cons]; omega⟩
theorem os_gd {l : List Nat} (h : ∀ c ∈ l, okSign c = true) (n : l.length ≤ 1000) : gd (.str (os l)) = true ∧ dep (.str (os l)) ≤ 60 ∧ wt (.str (os l)) ≤ 8000 := by
  have e : (os l).cps.size = l.length := List.size_toArray
  refine ⟨gd_str.mpr ⟨by omega, fun c hc => ok_small (h c hc)⟩, by simp [dep], by simp only [wt]; omega⟩
def Fair (v : DL.D) : Prop := gd v = true ∧ dep v ≤ 60 ∧ wt v ≤ 8000
theorem isC_same (x : Str) : isC x x = true := by unfold isC; simp
theorem str_same {s : Str} {M : Mp} {Q : DK} (q : Q (.bl true) M) : rEqD2 false (.str s) (.str s) M Q := by
  show Q (.bl (decide (s = s))) M
  rw [decide_eq_true rfl]
  exact q
def sp_is_done : DS1 := fun ds M Q => ∃ X v, ds = [.str X, v] ∧ shortB (.str X) = true ∧ Fair v ∧ Q (.bl true) M
theorem rd_is_done : ∀ ds M Q, sp_is_done ds M Q → ds.length = 2 ∧ r__law_is_done sp_edited_by sp_ldone { nx := fun _ M' => Q .non M', rt := Q } (dstart N__law_is_done ds) M := by
  rintro _ M Q ⟨X, v, rfl, sX, ⟨gv, dv, wv⟩, q⟩
  refine ⟨rfl, ?_⟩
  obtain ⟨x, ex, hx, okx⟩ := short_str sX
  cases ex
  have gX : gd (.str X) = true := gd_str.mpr ⟨by omega, fun c hc => ok_small (okx c hc)⟩
  obtain ⟨s, hs⟩ := repr_gd gv dv wv
  refine ⟨_, rfl, _, rfl, .str X, v, rfl, gX, gv, ?_⟩
  rw [if_pos sX]
  intro y ey
  cases ey
  cases hd : doneV (ls X) v with
  | none =>
    refine ⟨.inr rfl, _, rfl, rfl, _, _, rfl, _, _, rfl, rfl, ?_⟩
    refine ⟨_, rfl, _, rfl, X, v, rfl, hx, gv, ?_⟩
    rw [hd]
    refine ⟨_, rfl, rfl, _, rfl, ?_⟩
    refine ⟨_, rfl, _, _, rfl, .inr rfl, true, by rw [isC_same], ?_⟩
    show dCB rReprD (dCons (dExcV kn (dSlot 3)) dNil) _ _ _
    refine repr_op hs (fun Q' h => ⟨_, rfl, "BadEdits", v, rfl, .inr rfl, h⟩) ?_
    show dCB rReprD (dCons (dSlot 1) dNil) _ _ _
    exact repr_op hs (fun Q' h => ⟨_, rfl, h⟩) (str_same q)
  | some l =>
    have hl : (∀ c ∈ l, okSign c = true) ∧ l.length ≤ 1000 := by
      cases v <;> first | (cases hd; done) | skip
      rename_i es
      simp only [doneV] at hd
      split at hd
      · rename_i z
        obtain ⟨h1, h2⟩ := done_ok es (ls X) l okx z.2 hd
        have : (ls X).length = X.cps.size := Array.length_toList
        exact ⟨h1, by omega⟩
      · cases hd
    obtain ⟨g, d, w⟩ := os_gd hl.1 hl.2
    obtain ⟨s2, hs2⟩ := repr_gd g d w
    refine ⟨_, rfl, rfl, _, _, rfl, _, _, rfl, rfl, ?_⟩
    refine ⟨_, rfl, _, rfl, X, v, rfl, hx, gv, ?_⟩
    rw [hd]
    refine ⟨_, rfl, rfl, _, rfl, ?_⟩
    refine ⟨_, rfl, rfl, true, rfl, ?_⟩
    show dCB rReprD (dCons (dSlot 4) dNil) _ _ _
    refine repr_op hs2 (fun Q' h => ⟨_, rfl, h⟩) ?_
    show dCB rReprD (dCons (dSlot 2) dNil) _ _ _
    exact repr_op hs2 (fun Q' h => ⟨_, rfl, h⟩) (str_same q)
end K83

set_option maxHeartbeats 4000000
/-! K83l: one round of the law. -/
namespace K83
open PySem PySem.Spec DL KB
open L2 (atI ixN)
open PyProof.Rows hiding St signs

def sp_editsW : DSp := fun ds M Q E => ∃ u v, ds = [u, v] ∧ gd u = true ∧ gd v = true ∧ two u v E M (∀ x y : Str, u = .str x → v = .str y → Q (edT x y) M)
theorem wk_edits : ∀ ds M Q E, sp_editsW ds M Q E → sp_edits ds M (fun d M1 => ∃ M2, SubM M2 M1 ∧ Q d M2) fun x v M1 => ∃ M2, SubM M2 M1 ∧ E x v M2 := by
  rintro _ M Q E ⟨u, v, rfl, gu, gv, q⟩
  refine ⟨u, v, rfl, gu, gv, ?_⟩
  unfold two at q ⊢
  cases hu : shortB u with
  | false => rw [hu] at q; exact ⟨M, SubM.refl M, q⟩
  | true =>
    rw [hu] at q
    cases hv : shortB v with
    | false => rw [hv] at q; exact ⟨M, SubM.refl M, q⟩
    | true => rw [hv] at q; exact fun x y e1 e2 M' s => ⟨M, s, q x y e1 e2⟩
theorem two_ok {u v : DL.D} {E : DXK} {M : Mp} {q : Prop} (hu : shortB u = true) (hv : shortB v = true) (h : q) : two u v E M q := by
  unfold two
  rw [hu, hv]
  exact h
theorem Fs.short {n : Nat} {x : Str} (h : Fs n x) (hn : n ≤ 100) : shortB (.str x) = true := by
  simp only [shortB, Bool.and_eq_true, decide_eq_true_eq, List.all_eq_true]
  exact ⟨Nat.le_trans h.1 hn, h.2⟩
theorem Fs.up {n m : Nat} {x : Str} (h : Fs n x) (hn : n ≤ m) : Fs m x := ⟨Nat.le_trans h.1 hn, h.2⟩
theorem wtAll_le {k : Nat} : ∀ {xs : List DL.D}, (∀ x ∈ xs, wt x ≤ k) → wtAll xs ≤ (k + 1) * xs.length
  | [], _ => by simp [wtAll]
  | x :: xs, h => by
    have := wtAll_le (k := k) (xs := xs) fun y hy => h y (List.mem_cons_of_mem _ hy)
    have := h x List.mem_cons_self
    simp only [wtAll, List.length_cons, Nat.mul_succ]
    omega
theorem small_int {n : Nat} (h : n ≤ 1000) : gd (.int (n : Nat)) = true := by
  simp only [gd]
  refine decide_eq_true ?_
  show n.log2 < 1900
  exact Nat.lt_of_le_of_lt (Nat.log2_le_self n) (by omega)
theorem ed_small {x y : Str} (hx : Fs 100 x) (hy : Fs 100 y) : ∀ e ∈ ed (ls x) (ls y) 0, gd e = true ∧ dep e ≤ 1 ∧ wt e ≤ 8 ∧ tree e = true ∧ formE e = true := by
  intro e he
  have ly : (ls y).length ≤ 100 := by have := hy.1; rw [← Array.length_toList] at this; exact this
  rcases ed_form _ (ls x) (ls y) 0 (Nat.le_refl _) hy.2 e he with ⟨p, rfl, hp⟩ | ⟨p, c, h, hc, hp⟩
  · refine ⟨gd_tup.mpr ⟨by simp, fun z hz => ?_⟩, by simp [outE, dep, depAll], by simp only [outE, wt, wtAll]; decide, ?_, by simp [outE, formE]⟩
    · simp at hz
      rcases hz with rfl | rfl
      · rfl
      · exact small_int (by omega)
    · refine tree_tup.mpr fun z hz => ?_
      simp at hz
      rcases hz with rfl | rfl
      · rfl
      · simp only [tree]; exact decide_eq_true (by omega)
  · have gs : gd (.str (sg c)) = true := gd_str.mpr ⟨by show 1 ≤ 100000; decide, fun d hd => by
      have : d = c := by simpa [sg] using hd
      rw [this]; exact ok_small hc⟩
    have tp : ∀ w : Str, gd (.str w) = true → w.cps.size ≤ 4 → (w = "in" ∨ w = "turn") → gd (.tup [.str w, .int (p : Nat), .str (sg c)]) = true ∧ dep (.tup [.str w, .int (p : Nat), .str (sg c)]) ≤ 1 ∧ wt (.tup [.str w, .int (p : Nat), .str (sg c)]) ≤ 8 ∧ tree (.tup [.str w, .int (p : Nat), .str (sg c)]) = true ∧ formE (.tup [.str w, .int (p : Nat), .str (sg c)]) = true := by
      intro w gw lw hw
      refine ⟨gd_tup.mpr ⟨by simp, fun z hz => ?_⟩, by simp [dep, depAll], ?_, ?_, ?_⟩
      · simp at hz
        rcases hz with rfl | rfl | rfl
        · exact gw
        · exact small_int (by omega)
        · exact gs
      · have : (sg c).cps.size = 1 := rfl
        simp only [wt, wtAll]
        omega
      · refine tree_tup.mpr fun z hz => ?_
        simp at hz
        rcases hz with rfl | rfl | rfl
        · rfl
        · simp only [tree]; exact decide_eq_true (by omega)
        · rfl
      · have hb : (decide (w = "in") || decide (w = "turn")) = true := by
          rcases hw with z | z
          · rw [decide_eq_true z]; rfl
          · rw [decide_eq_true z, Bool.or_true]
        simp only [formE, hb, Bool.true_and]
        exact one_sg hc
    rcases h with rfl | rfl
    · exact tp "in" rfl (by decide) (.inl rfl)
    · exact tp "turn" rfl (by decide) (.inr rfl)
theorem edT_facts {x y : Str} (hx : Fs 100 x) (hy : Fs 100 y) : gd (edT x y) = true ∧ dep (edT x y) ≤ 2 ∧ wt (edT x y) ≤ 900 ∧ tree (edT x y) = true ∧ doneV (ls x) (edT x y) = some (ls y) ∧ (ed (ls x) (ls y) 0).length ≤ 100 := by
  have sm := ed_small hx hy
  have lx : (ls x).length ≤ 100 := by have := hx.1; rw [← Array.length_toList] at this; exact this
  have ly : (ls y).length ≤ 100 := by have := hy.1; rw [← Array.length_toList] at this; exact this
  have ll : (ed (ls x) (ls y) 0).length ≤ 100 := by
    rw [edL_le]
    have := dist_most (ls x) (ls y)
    omega
  refine ⟨gd_tup.mpr ⟨by omega, fun e he => (sm e he).1⟩, ?_, ?_, tree_tup.mpr fun e he => (sm e he).2.2.2.1, ?_, ll⟩
  · have : depAll (ed (ls x) (ls y) 0) ≤ 1 := depAll_le.mpr fun e he => (sm e he).2.1
    simp only [edT, dep]
    omega
  · have := wtAll_le (k := 8) fun e he => (sm e he).2.2.1
    simp only [edT, wt]
    omega
  · unfold edT
    simp only [doneV]
    rw [if_pos ⟨by omega, List.all_eq_true.mpr fun e he => (sm e he).2.2.2.2⟩]
    exact ed_done _ (ls x) (ls y) [] (Nat.le_refl _)
end K83

set_option maxHeartbeats 8000000
/-! K83m: one round of the law. -/
namespace K83
open PySem PySem.Spec DL KB
open L2 (atI ixN)
open PyProof.Rows hiding St signs

theorem fs_lit {x : Str} (h : decide (x.cps.size ≤ 100) && x.cps.toList.all okSign = true) : Fs 100 x := by
  simp only [Bool.and_eq_true, decide_eq_true_eq, List.all_eq_true] at h
  exact h
def Fair1 (v : DL.D) : Bool := gd v && decide (dep v ≤ 60) && decide (wt v ≤ 8000)
theorem fair_by {v : DL.D} (h : Fair1 v = true) : Fair v := by
  simp only [Fair1, Bool.and_eq_true, decide_eq_true_eq] at h
  exact ⟨h.1.1, h.1.2, h.2⟩
theorem fair_all {vs : List DL.D} (h : vs.all Fair1 = true) : ∀ v ∈ vs, Fair v := fun v hv => fair_by (List.all_eq_true.mp h v hv)
/-- the pot at a, the values so far at av -/
structure StV (M : Mp) (a av : Addr) (vs : List DL.D) (c : Nat) : Prop where
  pot : Pot M a c
  at_ : M av = some (.lst vs)
  ne : av ≠ a
  fair : ∀ v ∈ vs, Fair v
theorem StV.new {M : Mp} {a av : Addr} {vs : List DL.D} {c : Nat} (p : Pot M a c) (n : M av = none) (f : ∀ v ∈ vs, Fair v) : StV (mu M av (.lst vs)) a av vs c := by
  have ne := p.ne n
  exact ⟨p.at (mu_ne (Ne.symm ne)), mu_same, ne, f⟩
theorem StV.put {M : Mp} {a av : Addr} {vs vs' : List DL.D} {c : Nat} (s : StV M a av vs c) (f : ∀ v ∈ vs', Fair v) : StV (mu M av (.lst vs')) a av vs' c :=
  ⟨s.pot.at (mu_ne (Ne.symm s.ne)), mu_same, s.ne, f⟩
theorem StV.dr {M M' : Mp} {a av : Addr} {vs : List DL.D} {c c' : Nat} (s : StV M a av vs c) (d : Dr M a M' c') : StV M' a av vs c' :=
  ⟨d.1, by rw [d.2 av s.ne]; exact s.at_, s.ne, s.fair⟩
theorem fair_len {w z : Str} {n : Nat} (hw : Fair1 (.str w) = true) (hz : Fair1 (.str z) = true) (lw : w.cps.size ≤ 10) (lz : z.cps.size ≤ 10) (hn : n ≤ 1000) : Fair (.tup [.tup [.str w, .int (n : Nat), .str z]]) ∧ Fair (.tup [.tup [.str w, .int (n : Nat)]]) := by
  have g1 := (fair_by hw).1
  have g2 := (fair_by hz).1
  have gi := small_int hn
  have t3 : gd (.tup [.str w, .int (n : Nat), .str z]) = true := gd_tup.mpr ⟨by simp, fun y hy => by
    simp at hy
    rcases hy with rfl | rfl | rfl <;> assumption⟩
  have t2 : gd (.tup [.str w, .int (n : Nat)]) = true := gd_tup.mpr ⟨by simp, fun y hy => by
    simp at hy
    rcases hy with rfl | rfl <;> assumption⟩
  refine ⟨⟨gd_tup.mpr ⟨by simp, fun y hy => by rw [List.mem_singleton.mp hy]; exact t3⟩, by simp [dep, depAll], by simp only [wt, wtAll]; omega⟩, ⟨gd_tup.mpr ⟨by simp, fun y hy => by rw [List.mem_singleton.mp hy]; exact t2⟩, by simp [dep, depAll], by simp only [wt, wtAll]; omega⟩⟩
def vA (n : Nat) : List DL.D := [.tup [], .non, .lst [], .str "in", .tup [.tup [.str "in", .int 0, .str "a"]], .tup [.tup [.str "out", .int 0]], .tup [.tup [.str "turn", .int 0, .str "a"]], .tup [.tup [.str "in", .int (n : Nat), .str "z"]]]
def vB (n : Nat) : List DL.D := [.tup [.tup [.str "out", .int (n : Nat)]], .tup [.tup [.str "in", .int (-1), .str "a"]], .tup [.tup [.str "in", .int 0, .str "ab"]], .tup [.tup [.str "in", .int 0, .str "A"]]]
def vC : DL.D := .tup [.tup [.str "in", .bl true, .str "a"]]
def vR (k : Nat) : DL.D := .tup (List.replicate k [.tup [.str "in", .int 0, .str "a"], .tup [.str "out", .int 0]]).flatten
def vD : List DL.D := [.tup [.tup [.str "out", .int 0, .str "a"]], .tup [.tup [.str "in", .int 0]], .tup [.tup [.str "in", .int 0, .str ""]], vR 101]
theorem fair_A {n : Nat} (h : n ≤ 1000) : ∀ v ∈ vA n, Fair v := by
  intro v hv
  simp only [vA, List.mem_cons, List.not_mem_nil, or_false] at hv
  rcases hv with rfl | rfl | rfl | rfl | rfl | rfl | rfl | rfl
  all_goals first | exact (fair_len (by decide +kernel) (by decide +kernel) (by decide) (by decide) h).1 | exact fair_by (by decide +kernel)
theorem fair_B {n : Nat} (h : n ≤ 1000) : ∀ v ∈ vB n, Fair v := by
  intro v hv
  simp only [vB, List.mem_cons, List.not_mem_nil, or_false] at hv
  rcases hv with rfl | rfl | rfl | rfl
  all_goals first | exact (fair_len (z := "z") (by decide +kernel) (by decide +kernel) (by decide) (by decide) h).2 | exact fair_by (by decide +kernel)
theorem fair_C : Fair vC := fair_by (by decide +kernel)
theorem fair_R : Fair (vR 100) ∧ Fair (vR 101) := ⟨fair_by (by decide +kernel), fair_by (by decide +kernel)⟩
theorem fair_D : ∀ v ∈ vD, Fair v := by
  intro v hv
  simp only [vD, List.mem_cons, List.not_mem_nil, or_false] at hv
  rcases hv with rfl | rfl | rfl | rfl
  · exact fair_by (by decide +kernel)
  · exact fair_by (by decide +kernel)
  · exact fair_by (by decide +kernel)
  · exact fair_R.2
theorem fair_app {xs ys : List DL.D} (h : ∀ v ∈ xs, Fair v) (k : ∀ v ∈ ys, Fair v) : ∀ v ∈ xs ++ ys, Fair v := fun v hv => (List.mem_append.mp hv).elim (h v) (k v)
theorem fair_one {y : DL.D} (k : Fair y) : ∀ v ∈ [y], Fair v := fun v hv => by rw [List.mem_singleton.mp hv]; exact k
def sp_lright : DS1 := fun ds M Q => ∃ a c, ds = [.ref a] ∧ Pot M a c ∧ c ≤ 5000 ∧ ∀ M', Pot M' a (c + 1000) → Q (.bl true) M'
theorem tail_right {a av : Addr} {x1 x2 far : Str} {x3 : Str} {o10 o11 : Option DL.D} {M5 : Mp} {L0 : List DL.D} {c5 : Nat} {Q : DK} (V5 : StV M5 a av L0 c5) (lL : L0.length ≤ 20) (hc : c5 ≤ 6000) (F1 : Fs 100 x1) (F2 : Fs 100 x2) (q : ∀ M', Pot M' a (c5 + 600) → Q (.bl true) M') :
    (dSeq (dDrop (dExtend (dSlot 4) (dLc true (dRange1 (dC (.int 8))) (dgName 5) dYes (dCall1 (sp_bent 4) (dCons (dSlot 0) (dCons (dCallE sp_editsW (dCons (dSlot 3) (dCons (dSlot 6) dNil)) fun _ _ _ => False) dNil))) [5]))) (dSeq (dFor (dRange1 (dC (.int 8))) (dgName 5) (dSeq (dAsg (dLst false dNil) (dgName 8)) (dSeq (dFor (dRange1 (dCall1 sp_take (dCons (dSlot 0) (dCons (dC (.int 4)) dNil)))) (dgName 9) (dSeq (dAsg (dCall1 sp_of (dCons (dSlot 0) (dCons (dLst true (dCons (dC (.str "in")) (dCons (dC (.str "turn")) (dCons (dC (.str "out")) dNil)))) dNil))) (dgName 12)) (dSeq (dAsg (dCall1 sp_take (dCons (dSlot 0) (dCons (dOp (rAddD true) (dCB rLen (dCons (dSlot 3) dNil)) (dC (.int 2))) dNil))) (dgName 13)) (dDrop (dAppend (dSlot 8) (dIf (dB (dOp (rEqD2 false) (dSlot 12) (dC (.str "out")))) (dTup (dCons (dSlot 12) (dCons (dSlot 13) dNil))) (dTup (dCons (dSlot 12) (dCons (dSlot 13) (dCons (dCall1 sp_of (dCons (dSlot 0) (dCons (dC (.str "abc")) dNil))) dNil)))))))))) (dDrop (dAppend (dSlot 4) (dCB rTupD (dCons (dSlot 8) dNil))))))) (dRet (dCB rAllD (dCons (dLc true (dIt (dSlot 4)) (dgName 14) dYes (dCall1 sp_is_done (dCons (dSlot 3) (dCons (dSlot 14) dNil))) [14]) dNil))))) { nx := fun _ M' => Q .non M', rt := Q } [some (.ref a), some (.lst [.str x1, .str x2, .str x3]), some (.str far), some (.str x1), some (.ref av), none, some (.str x2), some (.str x3), none, none, o10, o11, none, none, none] M5 := by
  have s1 := Fs.short F1 (Nat.le_refl _)
  have s2 := Fs.short F2 (Nat.le_refl _)
  have g1 := F1.gd (by omega)
  have g2 := F2.gd (by omega)
  have z1 : x1.length ≤ sizeLine := small (n := x1.cps.size) (Nat.le_trans F1.1 (by omega))
  have e1 : (x1.length : Int) = (x1.cps.size : Nat) := rfl
  have c1 : x1.cps.size ≤ 100 := F1.1
  obtain ⟨tg, td, tw, tt, _, _⟩ := edT_facts F1 F2
  refine ⟨_, rfl, by show (mol (M5 av)).isSome = true; rw [V5.at_]; rfl, 8, rfl, by omega, by omega, ?_⟩
  refine lc_inv (fun n M' => Dr M5 a M' (c5 + 20 * n)) Fair (fun _ _ _ => trivial) _ [] M5 (Dr.refl V5.pot) (fun d hd => nomatch hd) ?_ (small (by simp [rgD])) ?_
  · intro d hd n M' i hn K1 K2 hk
    have hn3 : n < 8 := by simpa [rgD] using hn
    refine ⟨_, rfl, _, rfl, _, rfl, .str x1, .str x2, rfl, g1, g2, two_ok s1 s2 ?_⟩
    intro x' y' ex ey
    cases ex
    cases ey
    refine ⟨a, edT x1 x2, c5 + 20 * n, rfl, i.1, tt, tg, by omega, by omega, by omega, by omega, fun v' M2 gv dv wv dr => ?_⟩
    exact hk _ _ ⟨gv, by omega, by omega⟩ ((i.trans dr).up (by omega))
  intro ds M6 l P i
  have l8 : ds.length = 8 := by simpa [rgD] using l
  rw [l8] at i
  refine newTr ⟨av, _, _, ds, rfl, rfl, (V5.dr i).at_, rfl, small (by omega), ?_⟩
  have V7 := (V5.dr i).put (vs' := L0 ++ ds) (fair_app V5.fair P)
  refine ⟨8, rfl, by omega, by omega, ?_⟩
  refine for_inv (fun n ρ M' => ∃ o5 o8 o9 o12 o13 vs, ρ = [some (.ref a), some (.lst [.str x1, .str x2, .str x3]), some (.str far), some (.str x1), some (.ref av), o5, some (.str x2), some (.str x3), o8, o9, o10, o11, o12, o13, none] ∧ StV M' a av vs (c5 + 20 * 8 + 40 * n) ∧ vs.length ≤ 30 + n) (fun _ _ _ _ => trivial) _ 0 _ _ ⟨_, _, _, _, _, _, rfl, V7, by rw [List.length_append]; omega⟩ ?_ ?_
  · rintro d hd n ρ M7 ⟨o5, o8, o9, o12, o13, vs, rfl, V, lv⟩ hn N hN
    have hn8 : n < 8 := by simpa [rgD] using hn
    refine ⟨small (by simp), fun aS hS => ?_⟩
    have nSa : aS ≠ a := V.pot.ne hS
    have nSv : aS ≠ av := fun e => by rw [e, V.at_] at hS; cases hS
    have W : StV (mu M7 aS (.lst [])) a av vs (c5 + 20 * 8 + 40 * n) := ⟨V.pot.at (mu_ne (Ne.symm nSa)), by rw [mu_ne (Ne.symm nSv)]; exact V.at_, V.ne, V.fair⟩
    refine ⟨_, rfl, a, 4, _, rfl, W.pot, by omega, by omega, by omega, fun k M8 h0 h1 d1 => ?_⟩
    refine ⟨k, rfl, by omega, by omega, ?_⟩
    have W1 := W.dr d1
    have aS1 : M8 aS = some (.lst []) := by rw [d1.2 aS nSa, mu_same]
    refine for_inv (fun m ρ M' => ∃ o9 o12 o13 ws, ρ = [some (.ref a), some (.lst [.str x1, .str x2, .str x3]), some (.str far), some (.str x1), some (.ref av), some d, some (.str x2), some (.str x3), some (.ref aS), o9, o10, o11, o12, o13, none] ∧ StV M' a av vs (c5 + 20 * 8 + 40 * n + 1 + 5 * m) ∧ M' aS = some (.lst ws) ∧ (∀ w ∈ ws, gd w = true ∧ dep w ≤ 1 ∧ wt w ≤ 8) ∧ ws.length ≤ m) (fun _ _ _ _ => trivial) _ 0 _ _ ⟨_, _, _, [], rfl, W1, aS1, (fun w hw => nomatch hw), Nat.le_refl _⟩ ?_ ?_
    · rintro e he m ρ M9 ⟨o9, o12, o13, ws, rfl, U, at2, fw, lw⟩ hm N2 hN2
      have hm4 : m < 4 := by
        have : (rgD 0 k.toNat).length = k.toNat := by unfold rgD; simp
        rw [this] at hm
        omega
      refine ⟨_, rfl, small (by simp), newTr ⟨a, _, _, rfl, U.pot, by omega, .inl ⟨_, rfl, by simp, by simp, fun w hw M10 d10 => ?_⟩⟩⟩
      refine ⟨_, rfl, _, rfl, z1, a, (x1.length : Int) + 2, _, rfl, d10.1, by omega, by omega, by omega, fun p M11 p0 p1 d11 => ?_⟩
      have DD := d10.trans d11
      have U2 := U.dr DD
      have at3 : M11 aS = some (.lst ws) := by rw [DD.2 aS nSa]; exact at2
      refine ⟨_, rfl, by show (mol (M11 aS)).isSome = true; rw [at3]; rfl, ?_⟩
      obtain ⟨pn, rfl⟩ := Int.eq_ofNat_of_zero_le p0
      have gp : gd (.int (pn : Nat)) = true := small_int (by omega)
      have room : ws.length < sizeLine := by rw [sizeLine_eq]; omega
      have fin : ∀ (v : DL.D) (M12 : Mp) (c12 : Nat), gd v = true → dep v ≤ 1 → wt v ≤ 8 → Dr M11 a M12 c12 → c12 ≤ c5 + 20 * 8 + 40 * n + 1 + 5 * m + 4 → rAppD (.ref aS) [v] M12 (fun _ M' => N2 [some (.ref a), some (.lst [.str x1, .str x2, .str x3]), some (.str far), some (.str x1), some (.ref av), some d, some (.str x2), some (.str x3), some (.ref aS), some e, o10, o11, some w, some (.int (pn : Nat)), none] M') := by
        intro v M12 c12 gv dv wv dr hc12
        have U3 := U2.dr (dr.up hc12)
        have at4 : M12 aS = some (.lst ws) := by rw [dr.2 aS nSa]; exact at3
        refine ⟨aS, v, ws, rfl, rfl, at4, room, ?_⟩
        refine hN2 _ _ ⟨_, _, _, ws ++ [v], rfl, ⟨U3.pot.at (mu_ne (Ne.symm nSa)) |>.up (by omega), by rw [mu_ne (Ne.symm nSv)]; exact U3.at_, U3.ne, U3.fair⟩, mu_same, fun w' hw' => ?_, by rw [List.length_append, List.length_singleton]; omega⟩
        rcases List.mem_append.mp hw' with h | h
        · exact fw w' h
        · rw [List.mem_singleton.mp h]; exact ⟨gv, dv, wv⟩
      have three : ∀ y : Str, w = .str y → gd (.str y) = true → y.cps.size ≤ 4 → decide (y = "out") = false → dIf (dB (dOp (rEqD2 false) (dSlot 12) (dC (.str "out")))) (dTup (dCons (dSlot 12) (dCons (dSlot 13) dNil))) (dTup (dCons (dSlot 12) (dCons (dSlot 13) (dCons (dCall1 sp_of (dCons (dSlot 0) (dCons (dC (.str "abc")) dNil))) dNil)))) [some (.ref a), some (.lst [.str x1, .str x2, .str x3]), some (.str far), some (.str x1), some (.ref av), some d, some (.str x2), some (.str x3), some (.ref aS), some e, o10, o11, some w, some (.int (pn : Nat)), none] M11 (fun v M' => rAppD (.ref aS) [v] M' (fun _ M' => N2 [some (.ref a), some (.lst [.str x1, .str x2, .str x3]), some (.str far), some (.str x1), some (.ref av), some d, some (.str x2), some (.str x3), some (.ref aS), some e, o10, o11, some w, some (.int (pn : Nat)), none] M')) := by
        intro y ew gy ly ny
        subst ew
        refine ⟨_, rfl, false, by show D.bl (decide (y = "out")) = _; rw [ny], ?_⟩
        refine ⟨_, rfl, _, rfl, _, rfl, a, _, _, rfl, DD.1, by omega, .inr ⟨"abc", rfl, by decide, by decide, fun ch hch M12 d12 => ⟨small (by simp), ?_⟩⟩⟩
        have oc : ch < 128 := ok_small ((fs_lit (x := "abc") (by decide +kernel)).2 ch hch)
        refine fin _ M12 _ (gd_tup.mpr ⟨by simp, fun z hz => ?_⟩) (by simp [dep, depAll]) ?_ d12 (by omega)
        · simp at hz
          rcases hz with rfl | rfl | rfl
          · exact gy
          · exact gp
          · exact gd_str.mpr ⟨by show 1 ≤ 100000; decide, fun z hz => by
              have : z = ch := by simpa [sg] using hz
              rw [this]; exact oc⟩
        · have : (sg ch).cps.size = 1 := rfl
          simp only [wt, wtAll]
          omega
      simp at hw
      rcases hw with rfl | rfl | rfl
      · exact three _ rfl rfl (by decide) n_in_out
      · exact three _ rfl rfl (by decide) n_turn_out
      · refine ⟨_, rfl, true, by show D.bl (decide (("out" : Str) = "out")) = _; rw [decide_eq_true rfl], ?_⟩
        refine ⟨_, rfl, _, rfl, small (by simp), ?_⟩
        refine fin _ M11 _ (gd_tup.mpr ⟨by simp, fun z hz => ?_⟩) (by simp [dep, depAll]) (by simp only [wt, wtAll]; decide) (Dr.refl DD.1) (by omega)
        simp at hz
        rcases hz with rfl | rfl
        · rfl
        · exact gp
    · rintro ρ M9 ⟨o9, o12, o13, ws, rfl, U, at2, fw, lw⟩
      have lr : (rgD 0 k.toNat).length = k.toNat := by unfold rgD; simp
      rw [lr] at U lw
      have fwt : Fair (.tup ws) := by
        refine ⟨gd_tup.mpr ⟨by omega, fun w hw => (fw w hw).1⟩, ?_, ?_⟩
        · have : depAll ws ≤ 1 := depAll_le.mpr fun w hw => (fw w hw).2.1
          simp only [dep]
          omega
        · have := wtAll_le (k := 8) fun w hw => (fw w hw).2.2
          simp only [wt]
          omega
      refine ⟨_, rfl, by show (mol (M9 av)).isSome = true; rw [U.at_]; rfl, _, rfl, ws, by show mol (M9 aS) = _; rw [at2]; rfl, ?_⟩
      refine ⟨av, _, vs, rfl, rfl, U.at_, by rw [sizeLine_eq]; omega, ?_⟩
      have U4 := U.put (vs' := vs ++ [.tup ws]) (fair_app U.fair (fair_one fwt))
      exact hN _ _ ⟨_, _, _, _, _, _, rfl, ⟨U4.pot.up (by omega), U4.at_, U4.ne, U4.fair⟩, by rw [List.length_append, List.length_singleton]; omega⟩
  · rintro ρ M7 ⟨o5, o8, o9, o12, o13, vs, rfl, V, lv⟩
    have lr : (rgD 0 (8 : Int).toNat).length = 8 := by unfold rgD; simp
    rw [lr] at lv
    refine ⟨_, rfl, vs, V.at_, ?_⟩
    refine lc_inv (fun _ M' => M' = M7) (fun d => d = .bl true) (fun _ M' h => by rw [h]; exact V.at_) _ [] M7 rfl (fun d hd => nomatch hd) ?_ (small (by simp; omega)) ?_
    · rintro v hv n M' rfl hn K1 K2 hk
      exact ⟨_, rfl, _, rfl, x1, v, rfl, s1, V.fair v hv, hk _ _ rfl rfl⟩
    · rintro ds M' l pd rfl
      obtain ⟨bs, b1, b2⟩ := trues pd
      refine newTr ⟨_, bs, rfl, b1, ?_⟩
      show Q (.bl (bs.all id)) M'
      rw [b2]
      rw [lr] at V
      exact q M' (V.pot.up (by omega))
theorem rd_lright : ∀ ds M Q, sp_lright ds M Q → ds.length = 1 ∧ r__law_right sp_any sp_of sp_nd sp_editsW sp_distance sp_ldone sp_edited_by (sp_bent 4) sp_take sp_is_done { nx := fun _ M' => Q .non M', rt := Q } (dstart N__law_right ds) M := by
  rintro _ M Q ⟨a, c, rfl, p, hc, q⟩
  refine ⟨rfl, ?_⟩
  refine ⟨3, rfl, by omega, by omega, ?_⟩
  refine lc_inv (fun n M' => Dr M a M' (c + 16 * n)) (fun d => ∃ x, d = .str x ∧ Fs 12 x) (fun _ _ _ => trivial) _ [] M (Dr.refl p) (fun d hd => nomatch hd) ?_ (small (by simp [rgD])) ?_
  · intro d hd n M' i hn K1 K2 hk
    have hn3 : n < 3 := by simpa [rgD] using hn
    refine ⟨_, rfl, _, rfl, small (by simp), newTr ⟨a, _, c + 16 * n, rfl, i.1, by omega, .inl ⟨_, rfl, by simp, by simp, fun e he M1 d1 => ?_⟩⟩⟩
    have go : ∀ x : Str, e = .str x → 0 < x.cps.size → Fs 100 x → sp_any [.ref a, e, .int 12] M1 K1 := fun x hx h0 fx => by
      subst hx
      refine ⟨a, x, 12, c + 16 * n + 1, rfl, d1.1, by omega, by omega, h0, fx, fun y M2 fy d2 => ?_⟩
      exact hk _ _ ⟨y, rfl, fy⟩ (((i.trans d1).trans d2).up (by omega))
    simp at he
    rcases he with rfl | rfl | rfl
    · exact go _ rfl (by decide) (fs_lit (by decide +kernel))
    · exact go _ rfl (by decide) (fs_lit (by decide +kernel))
    · exact go _ rfl (by decide) (fs_lit (by decide +kernel))
  intro ds M1 l P i
  have l3 : ds.length = 3 := by simpa [rgD] using l
  rw [l3] at i
  obtain ⟨x1, x2, x3, rfl, f1, f2, f3⟩ : ∃ x1 x2 x3 : Str, ds = [.str x1, .str x2, .str x3] ∧ Fs 12 x1 ∧ Fs 12 x2 ∧ Fs 12 x3 := by
    match ds, l3 with
    | [d1, d2, d3], _ =>
      obtain ⟨x1, rfl, h1⟩ := P d1 (by simp)
      obtain ⟨x2, rfl, h2⟩ := P d2 (by simp)
      obtain ⟨x3, rfl, h3⟩ := P d3 (by simp)
      exact ⟨x1, x2, x3, rfl, h1, h2, h3⟩
  clear P l l3
  refine newTr ?_
  refine ⟨_, rfl, a, "ab", 100, c + 16 * 3, rfl, i.1, by omega, by omega, by decide, fs_lit (by decide +kernel), fun far M2 ff d2 => ?_⟩
  have D2 := i.trans d2
  clear d2 i
  refine ⟨_, rfl, _, rfl, small (by simp), newTr ⟨_, _, rfl, rfl, small (by simp), newTr ?_⟩⟩
  show forW _ _ _ _ [.str x1, .str x2, .str x3, .str far] _ _
  have all3 : ∀ d ∈ [D.str x1, .str x2, .str x3], ∃ y, d = .str y ∧ Fs 12 y := fun d hd => by
    simp at hd
    rcases hd with rfl | rfl | rfl
    · exact ⟨_, rfl, f1⟩
    · exact ⟨_, rfl, f2⟩
    · exact ⟨_, rfl, f3⟩
  have all4 : ∀ d ∈ [D.str x1, .str x2, .str x3, .str far], ∃ y, d = .str y ∧ Fs 100 y := fun d hd => by
    simp at hd
    rcases hd with rfl | rfl | rfl | rfl
    · exact ⟨_, rfl, Fs.up f1 (by omega)⟩
    · exact ⟨_, rfl, Fs.up f2 (by omega)⟩
    · exact ⟨_, rfl, Fs.up f3 (by omega)⟩
    · exact ⟨_, rfl, ff⟩
  refine for_inv (fun _ ρ M1 => M1 = M2 ∧ ∃ o3 o6 o10 o11, ρ = [some (.ref a), some (.lst [.str x1, .str x2, .str x3]), some (.str far), o3, none, none, o6, none, none, none, o10, o11, none, none, none]) (fun _ _ _ _ => trivial) _ 0 _ _ ⟨rfl, none, none, none, none, rfl⟩ ?_ ?_
  · rintro d hd m ρ M1 ⟨rfl, o3, o6, o10, o11, rfl⟩ _ N hN
    obtain ⟨x, rfl, fx⟩ := all4 d hd
    refine ⟨_, rfl, ?_⟩
    show forW _ _ _ _ [.str x1, .str x2, .str x3] _ _
    refine for_inv (fun _ ρ M3 => M3 = M1 ∧ ∃ o6 o10 o11, ρ = [some (.ref a), some (.lst [.str x1, .str x2, .str x3]), some (.str far), some (.str x), none, none, o6, none, none, none, o10, o11, none, none, none]) (fun _ _ _ _ => trivial) _ 0 _ _ ⟨rfl, o6, o10, o11, rfl⟩ ?_ ?_
    · rintro e he m2 ρ M3 ⟨rfl, o6, o10, o11, rfl⟩ _ N2 hN2
      obtain ⟨y, rfl, fy'⟩ := all3 e he
      have fy := Fs.up fy' (m := 100) (by omega)
      have sx := Fs.short fx (Nat.le_refl _)
      have sy := Fs.short fy (Nat.le_refl _)
      have gx := fx.gd (by omega)
      have gy := fy.gd (by omega)
      obtain ⟨g, dp, w, tr, dn, ll⟩ := edT_facts fx fy
      have dl := edL_le x y
      obtain ⟨s, hs⟩ := repr_gd (v := .int (dist (ls x) (ls y) : Nat)) (small_int (by omega)) (by simp [dep]) (by simp [wt])
      refine ⟨_, rfl, _, rfl, x, y, rfl, Nat.le_trans fx.1 (by omega), Nat.le_trans fy.1 (by omega), ?_⟩
      refine ⟨_, rfl, _, rfl, .str x, .str y, rfl, gx, gy, two_ok sx sy ?_⟩
      intro x' y' ex ey
      cases ex
      cases ey
      show dCB rReprD (dCons (dCallE sp_distance (dCons (dSlot 3) (dCons (dSlot 6) dNil)) fun _ _ _ => False) dNil) _ _ _
      refine repr_op hs (fun Q' h => ⟨_, rfl, _, rfl, .str x, .str y, rfl, gx, gy, two_ok sx sy fun x' y' ex ey => by cases ex; cases ey; exact h⟩) ?_
      show dCB rReprD (dCons (dSlot 10) dNil) _ _ _
      refine repr_op hs (fun Q' h => ⟨_, rfl, h⟩) ?_
      refine ⟨false, by show D.bl (!decide (s = s)) = _; rw [decide_eq_true rfl]; rfl, ?_⟩
      refine ⟨_, rfl, ed (ls x) (ls y) 0, rfl, _, rfl, false, by show D.bl (!decide (((ed (ls x) (ls y) 0).length : Int) = ((dist (ls x) (ls y) : Nat) : Int))) = _; rw [dl, decide_eq_true rfl]; rfl, ?_⟩
      refine ⟨_, rfl, _, rfl, x, edT x y, rfl, fx.1, g, ?_⟩
      rw [dn]
      refine ⟨_, rfl, false, by show D.bl (!decide (os (ls y) = y)) = _; rw [os_ls, decide_eq_true rfl]; rfl, ?_⟩
      refine ⟨_, rfl, _, rfl, .str x, edT x y, rfl, gx, g, ?_⟩
      rw [if_pos sx]
      intro x' ex
      cases ex
      rw [dn]
      refine ⟨_, rfl, false, by show D.bl (!decide (os (ls y) = y)) = _; rw [os_ls, decide_eq_true rfl]; rfl, ?_⟩
      exact hN2 _ _ ⟨rfl, _, _, _, rfl⟩
    · rintro ρ M3 ⟨rfl, o6, o10, o11, rfl⟩
      exact hN _ _ ⟨rfl, _, _, _, _, rfl⟩
  rintro ρ M1 ⟨rfl, o3, o6, o10, o11, rfl⟩
  refine ⟨_, rfl, _, rfl, rfl, _, _, rfl, _, _, rfl, _, _, rfl, rfl, ?_⟩
  have F1 := Fs.up f1 (m := 100) (by omega)
  have F2 := Fs.up f2 (m := 100) (by omega)
  have F3 := Fs.up f3 (m := 100) (by omega)
  have s1 := Fs.short F1 (Nat.le_refl _)
  have s2 := Fs.short F2 (Nat.le_refl _)
  have s3 := Fs.short F3 (Nat.le_refl _)
  have g1 := F1.gd (by omega)
  have g2 := F2.gd (by omega)
  have g3 := F3.gd (by omega)
  have tri := dist_tri (ls x1) (ls x2) (ls x3)
  refine ⟨_, rfl, _, rfl, .str x1, .str x3, rfl, g1, g3, two_ok s1 s3 ?_⟩
  intro x' y' ex ey
  cases ex
  cases ey
  refine ⟨_, rfl, _, rfl, .str x1, .str x2, rfl, g1, g2, two_ok s1 s2 ?_⟩
  intro x' y' ex ey
  cases ex
  cases ey
  refine ⟨_, rfl, _, rfl, .str x2, .str x3, rfl, g2, g3, two_ok s2 s3 ?_⟩
  intro x' y' ex ey
  cases ex
  cases ey
  refine ⟨_, _, rfl, rfl, trivial, _, rfl, ?_⟩
  rw [decide_eq_false (by omega)]
  have z1 : x1.length ≤ sizeLine := small (n := x1.cps.size) (Nat.le_trans F1.1 (by omega))
  have e1 : (x1.length : Int) = (x1.cps.size : Nat) := rfl
  have c1 : x1.cps.size ≤ 1000 := Nat.le_trans F1.1 (by omega)
  refine ⟨small (by simp), small (by simp), newTr ⟨small (by simp), small (by simp), small (by simp), small (by simp), small (by simp), small (by simp), _, rfl, z1, small (by simp), small (by simp), small (by simp), fun v1 h1 => ?_⟩⟩
  have V1 := StV.new (vs := vA x1.length) D2.1 h1 (fair_A c1)
  refine ⟨_, rfl, _, rfl, z1, small (by simp), small (by simp), 1, rfl, small (by simp), small (by simp), small (by simp), small (by simp), small (by simp), small (by simp), small (by simp), newTr ⟨_, _, by show mol (mu M1 v1 _ v1) = _; rw [mu_same]; rfl, rfl, small (by simp), fun v2 h2 => ?_⟩⟩
  have V2 := StV.new (vs := vA x1.length ++ vB x1.length) V1.pot h2 (fair_app (fair_A c1) (fair_B c1))
  refine ⟨_, rfl, by show (mol (mu _ v2 _ v2)).isSome = true; rw [mu_same]; rfl, small (by simp), small (by simp), v2, _, _, rfl, rfl, V2.at_, by rw [sizeLine_eq]; simp [vA, vB], ?_⟩
  have V3 := V2.put (vs' := vA x1.length ++ vB x1.length ++ [vC]) (fair_app V2.fair (fair_one fair_C))
  refine ⟨_, rfl, small (by simp), small (by simp), small (by simp), small (by simp), small (by simp), small (by simp), small (by simp), small (by simp), small (by simp), _, 101, rfl, rfl, by simp, by simp, by decide, by decide, ?_⟩
  refine ⟨small (by simp), newTr ⟨_, _, by show mol (mu _ v2 _ v2) = _; rw [mu_same]; rfl, rfl, small (by simp [vA, vB]), fun v3 h3 => ?_⟩⟩
  have V4 := StV.new (vs := vA x1.length ++ vB x1.length ++ [vC] ++ vD) V3.pot h3 (fair_app V3.fair fair_D)
  refine ⟨_, rfl, small (by simp), small (by simp), small (by simp), _, 100, rfl, rfl, by simp, by simp, by decide, by decide, ?_⟩
  refine ⟨small (by simp), newTr ⟨_, _, by show mol (mu _ v3 _ v3) = _; rw [mu_same]; rfl, rfl, small (by simp [vA, vB]), fun av h4 => ?_⟩⟩
  have V5 := StV.new (vs := vA x1.length ++ vB x1.length ++ [vC] ++ vD ++ [vR 100]) V4.pot h4 (fair_app V4.fair (fair_one fair_R.1))
  obtain ⟨L0, eL⟩ : ∃ L, L = vA x1.length ++ vB x1.length ++ [vC] ++ vD ++ [vR 100] := ⟨_, rfl⟩
  have lL : L0.length = 18 := by rw [eL]; simp [vA, vB, vD]
  rw [← eL] at V5
  obtain ⟨M5, eM⟩ : ∃ M5, M5 = mu (mu (mu (mu (mu M1 v1 (.lst (vA x1.length))) v2 (.lst (vA x1.length ++ vB x1.length))) v2 (.lst (vA x1.length ++ vB x1.length ++ [vC]))) v3 (.lst (vA x1.length ++ vB x1.length ++ [vC] ++ vD))) av (.lst L0) := ⟨_, rfl⟩
  have V6 : StV M5 a av L0 (c + 16 * 3 + 100 + 2) := by rw [eM]; exact V5
  have go : (dSeq (dDrop (dExtend (dSlot 4) (dLc true (dRange1 (dC (.int 8))) (dgName 5) dYes (dCall1 (sp_bent 4) (dCons (dSlot 0) (dCons (dCallE sp_editsW (dCons (dSlot 3) (dCons (dSlot 6) dNil)) fun _ _ _ => False) dNil))) [5]))) (dSeq (dFor (dRange1 (dC (.int 8))) (dgName 5) (dSeq (dAsg (dLst false dNil) (dgName 8)) (dSeq (dFor (dRange1 (dCall1 sp_take (dCons (dSlot 0) (dCons (dC (.int 4)) dNil)))) (dgName 9) (dSeq (dAsg (dCall1 sp_of (dCons (dSlot 0) (dCons (dLst true (dCons (dC (.str "in")) (dCons (dC (.str "turn")) (dCons (dC (.str "out")) dNil)))) dNil))) (dgName 12)) (dSeq (dAsg (dCall1 sp_take (dCons (dSlot 0) (dCons (dOp (rAddD true) (dCB rLen (dCons (dSlot 3) dNil)) (dC (.int 2))) dNil))) (dgName 13)) (dDrop (dAppend (dSlot 8) (dIf (dB (dOp (rEqD2 false) (dSlot 12) (dC (.str "out")))) (dTup (dCons (dSlot 12) (dCons (dSlot 13) dNil))) (dTup (dCons (dSlot 12) (dCons (dSlot 13) (dCons (dCall1 sp_of (dCons (dSlot 0) (dCons (dC (.str "abc")) dNil))) dNil)))))))))) (dDrop (dAppend (dSlot 4) (dCB rTupD (dCons (dSlot 8) dNil))))))) (dRet (dCB rAllD (dCons (dLc true (dIt (dSlot 4)) (dgName 14) dYes (dCall1 sp_is_done (dCons (dSlot 3) (dCons (dSlot 14) dNil))) [14]) dNil))))) { nx := fun _ M' => Q .non M', rt := Q } [some (.ref a), some (.lst [.str x1, .str x2, .str x3]), some (.str far), some (.str x1), some (.ref av), none, some (.str x2), some (.str x3), none, none, o10, o11, none, none, none] M5 := tail_right V6 (by omega) (by omega) F1 F2 (fun M' p' => q M' (p'.up (by omega)))
  rw [eM, eL] at go
  exact go
end K83

set_option maxHeartbeats 8000000
/-! K83n: the law. -/
namespace K83
open PySem PySem.Spec DL KB
open L2 (atI ixN)
open PyProof.Rows hiding St signs

theorem kitten : dist (ls "kitten") (ls "sitting") = 3 := by
  have e1 : ls "kitten" = [107, 105, 116, 116, 101, 110] := by decide
  have e2 : ls "sitting" = [115, 105, 116, 116, 105, 110, 103] := by decide
  rw [e1, e2]
  simp [dist_cons, dist_nil, dist_nil2]
def S_of (fD fE : Addr) (f : Addr) (sp : DSp) : Prop := (f = fD ∧ sp = sp_distance) ∨ (f = fE ∧ sp = sp_editsW)
theorem odd6 : ∀ v ∈ [D.non, .int 3, .str "A", .str (repS "a" 101), .lst [.str "a"], .bl true], shortB v = false ∧ Fair v := by
  intro v hv
  simp only [List.mem_cons, List.not_mem_nil, or_false] at hv
  rcases hv with rfl | rfl | rfl | rfl | rfl | rfl
  all_goals exact ⟨by decide +kernel, fair_by (by decide +kernel)⟩
theorem bad_two {u v : DL.D} {E : DXK} {M : Mp} {q : Prop} (hu : shortB u = false) (h : E "BadText" u M) : two u v E M q := by
  unfold two
  rw [hu]
  exact h
theorem bad_two2 {u v : DL.D} {E : DXK} {M : Mp} {q : Prop} (hu : shortB u = true) (hv : shortB v = false) (h : E "BadText" v M) : two u v E M q := by
  unfold two
  rw [hu, hv]
  exact h
def sp_law : DS1 := fun ds M Q => ∃ ns : List Int, ds = [.slst (ns.map D.int)] ∧ ns.length ≤ 63 ∧ ∀ M', Q (.bl true) M'
theorem rd_law (fD fE : Addr) : ∀ ds M Q, sp_law ds M Q → ds.length = 1 ∧ r_law fE fD (S_of fD fE) sp_edited_by sp_places sp_pot sp_lright sp_distance { nx := fun _ M' => Q .non M', rt := Q } (dstart N_law ds) M := by
  rintro _ M Q ⟨ns, rfl, ln, q⟩
  refine ⟨rfl, ?_⟩
  refine ⟨by decide, by decide, by decide, small (by simp), newTr ⟨small (by simp), ?_⟩⟩
  show forW _ _ _ _ [D.non, .int 3, .str "A", .str (repS "a" 101), .lst [.str "a"], .bl true] _ _
  refine for_inv (fun _ ρ M1 => M1 = M ∧ ∃ o1 o3 o5 o6 o7, ρ = [some (.slst (ns.map D.int)), o1, none, o3, none, o5, o6, o7, none]) (fun _ _ _ _ => trivial) _ 0 _ _ ⟨rfl, none, none, none, none, none, rfl⟩ ?_ ?_
  · rintro v hv m ρ M1 ⟨rfl, o1, o3, o5, o6, o7, rfl⟩ _ N hN
    obtain ⟨sv, fv⟩ := odd6 v hv
    obtain ⟨gv, dv, wv⟩ := fv
    obtain ⟨s, hs⟩ := repr_gd gv dv wv
    refine ⟨small (by simp), ?_⟩
    show forW _ _ _ _ [D.ref fD, .ref fE] _ _
    refine for_inv (fun _ ρ M2 => M2 = M1 ∧ ∃ o3 o5 o6 o7, ρ = [some (.slst (ns.map D.int)), some v, none, o3, none, o5, o6, o7, none]) (fun _ _ _ _ => trivial) _ 0 _ _ ⟨rfl, o3, o5, o6, o7, rfl⟩ ?_ ?_
    · rintro d hd m2 ρ M2 ⟨rfl, o3, o5, o6, o7, rfl⟩ _ N2 hN2
      obtain ⟨f, sp, rfl, hS, h1, h2⟩ : ∃ f sp, d = .ref f ∧ S_of fD fE f sp ∧ (∀ (u w : DL.D) (Q : DK) (E : DXK), gd u = true → gd w = true → shortB u = false → E "BadText" u M2 → sp [u, w] M2 Q E) ∧ (∀ (u w : DL.D) (Q : DK) (E : DXK), gd u = true → gd w = true → shortB u = true → shortB w = false → E "BadText" w M2 → sp [u, w] M2 Q E) := by
        simp only [List.mem_cons, List.not_mem_nil, or_false] at hd
        rcases hd with rfl | rfl
        · exact ⟨fD, sp_distance, rfl, .inl ⟨rfl, rfl⟩, fun u w Q E gu gw su e => ⟨u, w, rfl, gu, gw, bad_two su e⟩, fun u w Q E gu gw su sw e => ⟨u, w, rfl, gu, gw, bad_two2 su sw e⟩⟩
        · exact ⟨fE, sp_editsW, rfl, .inr ⟨rfl, rfl⟩, fun u w Q E gu gw su e => ⟨u, w, rfl, gu, gw, bad_two su e⟩, fun u w Q E gu gw su sw e => ⟨u, w, rfl, gu, gw, bad_two2 su sw e⟩⟩
      refine ⟨f, sp, rfl, hS, _, rfl, h1 v .non _ _ gv rfl sv ⟨.inl rfl, ?_⟩⟩
      refine ⟨_, rfl, rfl, _, _, rfl, _, _, rfl, rfl, ?_⟩
      refine ⟨f, sp, rfl, hS, _, rfl, h2 (.str "") v _ _ rfl gv (by decide +kernel) sv ⟨.inl rfl, ?_⟩⟩
      refine ⟨_, rfl, rfl, _, _, rfl, _, _, rfl, rfl, ?_⟩
      refine ⟨_, rfl, "BadText", v, rfl, .inl rfl, true, by rw [isC_same], ?_⟩
      refine ⟨_, rfl, "BadText", v, rfl, .inl rfl, true, by rw [isC_same], ?_⟩
      show dCB rReprD (dCons (dExcV kn (dSlot 7)) dNil) _ _ _
      refine repr_op hs (fun Q' h => ⟨_, rfl, "BadText", v, rfl, .inl rfl, h⟩) ?_
      show dCB rReprD (dCons (dSlot 1) dNil) _ _ _
      refine repr_op hs (fun Q' h => ⟨_, rfl, h⟩) ?_
      refine ⟨false, by show D.bl (!decide (s = s)) = _; rw [decide_eq_true rfl]; rfl, ?_⟩
      exact hN2 _ _ ⟨rfl, _, _, _, _, rfl⟩
    · rintro ρ M2 ⟨rfl, o3, o5, o6, o7, rfl⟩
      refine ⟨_, rfl, v, .non, rfl, gv, rfl, ?_⟩
      rw [sv]
      refine ⟨.inl rfl, ?_⟩
      refine ⟨_, rfl, rfl, _, _, rfl, _, _, rfl, rfl, ?_⟩
      refine ⟨_, rfl, "BadText", v, rfl, .inl rfl, true, by rw [isC_same], ?_⟩
      show dCB rReprD (dCons (dExcV kn (dSlot 5)) dNil) _ _ _
      refine repr_op hs (fun Q' h => ⟨_, rfl, "BadText", v, rfl, .inl rfl, h⟩) ?_
      show dCB rReprD (dCons (dSlot 1) dNil) _ _ _
      refine repr_op hs (fun Q' h => ⟨_, rfl, h⟩) ?_
      refine ⟨false, by show D.bl (!decide (s = s)) = _; rw [decide_eq_true rfl]; rfl, ?_⟩
      exact hN _ _ ⟨rfl, _, _, _, _, _, rfl⟩
  rintro ρ M1 ⟨rfl, o1, o3, o5, o6, o7, rfl⟩
  refine ⟨_, rfl, ns, rfl, by omega, fun n hn => ?_⟩
  have lr : (rgD 0 n).length = n := by unfold rgD; simp
  refine for_inv (fun _ ρ M2 => ∃ o2 o4, ρ = [some (.slst (ns.map D.int)), o1, o2, o3, o4, o5, o6, o7, none]) (fun _ _ _ _ => trivial) _ 0 _ _ ⟨none, none, rfl⟩ ?_ ?_
  · rintro d hd m ρ M2 ⟨o2, o4, rfl⟩ _ N hN
    unfold rgD at hd
    obtain ⟨i, hi, rfl⟩ := List.mem_map.mp hd
    have hi' := List.mem_range.mp hi
    refine ⟨_, rfl, _, rfl, ns, i, by simp, by omega, by omega, fun a M3 ha pa => ?_⟩
    refine ⟨3, rfl, by omega, by omega, ?_⟩
    refine lc_inv (fun n M' => Pot M' a (1000 * n)) (fun d => d = .bl true) (fun _ _ _ => trivial) _ [] M3 pa (fun d hd => nomatch hd) ?_ (small (by simp [rgD])) ?_
    · intro e he n2 M4 pi hn2 K1 K2 hk
      have hn3 : n2 < 3 := by simpa [rgD] using hn2
      exact ⟨_, rfl, a, 1000 * n2, rfl, pi, by omega, fun M5 p5 => hk _ _ rfl (p5.up (by omega))⟩
    · intro ds M4 l pd pi
      obtain ⟨bs, b1, b2⟩ := trues pd
      refine newTr ⟨_, bs, rfl, b1, true, by show D.bl (bs.all id) = _; rw [b2], ?_⟩
      exact hN _ _ ⟨_, _, rfl⟩
  · rintro ρ M2 ⟨o2, o4, rfl⟩
    refine ⟨.str "kitten", .str "sitting", rfl, by decide +kernel, by decide +kernel, two_ok (by decide +kernel) (by decide +kernel) fun x y ex ey => ?_⟩
    cases ex
    cases ey
    rw [kitten]
    exact q M2
end K83

set_option maxHeartbeats 8000000
/-! K83o: the defs together. -/
namespace K83
open PySem PySem.Spec L2 DL KB
open PyProof.Rows hiding St signs

section
variable {P : Program} {w : World} {K : PySem.W.Frag} {mg : Str → Option Value} {base : Heap}
/-- the tables of the two defs that make lambdas -/
abbrev TT2 (PI PL : Addr) : TT8 := [(PI, lamQ "_law_is_done"), (PL, lamQ "law")]
theorem all_law (T : Txt K mg) (XE : Exs P w K mg base) {CS CT CE : Addr} (XK : Kns K mg CS CT CE) {cI PI cL PL : Addr} (tI : LamX.TabB base mg cI PI) (tL : LamX.TabB base mg cL PL) (ne : PI ≠ PL) (hL : HasL K mg "_law_is_done" st__law_is_done ["text", "value"] cI)
    {f : Addr} {oc : Value} {od : Option Addr} {dV kV doc pm : Value} {an : Option Addr} {ct : Value} {osl : Array (Option Value)}
    (lk : K.lookup f = some ⟨oc, od, .func (PySem.W.fnOf "law" "law" (L2.defArgs st_law) (L2.defBody st_law) (L2.defScope st_law) dV kV doc pm an (.ref cL) ct), osl⟩) (hcd : PySem.W.codeIn K (.ref cL) "law" = true) :
    GnOk P w K mg base (L2.CX P w) 51 f (PySem.W.fnOf "law" "law" (L2.defArgs st_law) (L2.defBody st_law) (L2.defScope st_law) dV kV doc pm an (.ref cL) ct) ["script"] (lift K (TT2 PI PL) (quiet sp_law)) := by
  have t1 := c_is_tuple (P := P) (w := w) (base := base) (k := 0) (TT := TT2 PI PL) T rd_tuple
  have t2 := c_is_whole (P := P) (w := w) (base := base) (k := 0) (TT := TT2 PI PL) T rd_whole
  have t3 := c_is_short (P := P) (w := w) (base := base) (k := 0) (TT := TT2 PI PL) T rd_short
  have t4 := c_check_text (k := 2) T XE (by decide) (t3.mono (by decide)) rd_check
  have t5 := (c_distances (P := P) (w := w) (base := base) (k := 0) (TT := TT2 PI PL) T rd_dist).weak wk_dist
  have t6 := c_distance (k := 3) T t4 (t5.mono (by decide)) rd_distance
  have t7 := (c_edits (k := 3) T t4 (t5.mono (by decide)) rd_edits).weak wk_edits
  have t8 := c_is_edit (k := 1) T t1 t2 rd_is_edit
  have t9 := c_edited (P := P) (w := w) (base := base) (k := 0) (TT := TT2 PI PL) T rd_edited
  have t10 := c_edited_by (k := 3) T XE (by decide) t4 (t1.mono (by decide)) (t8.mono (by decide)) (t9.mono (by decide)) rd_edited_by
  have u1 := c__law_take (P := P) (w := w) (base := base) (k := 0) (TT := TT2 PI PL) T rd_take
  have u2 := c__law_of (k := 1) T u1 rd_of
  have u3 := c__law_odd (k := 2) T u2 rd_odd
  have be : ∀ N : Nat, Cal1 P w K (TT2 PI PL) mg base (N + 3) "_law_bent" (sp_bent N) := by
    intro N
    induction N with
    | zero => exact (Cal.none T.h__law_bent fun ds M Q E h => by obtain ⟨_, _, _, _, _, _, _, h, _⟩ := h; omega).mono (by decide)
    | succ N ih => exact c__law_bent (k := N + 3) T (u1.mono (by omega)) ih (u2.mono (by omega)) (u3.mono (by omega)) (rd_bent N)
  have v1 := (c__law_n_distance (P := P) (w := w) (base := base) (k := 0) (TT := TT2 PI PL) T rd_nd).weak wk_nd
  have v2 := c__law_n_any (k := 2) T (u1.mono (by decide)) u2 rd_any
  have v3 := c__law_signs_of_all (P := P) (w := w) (base := base) (k := 0) (TT := TT2 PI PL) T rd_sall
  have v4 := c__law_done (k := 1) T v3 rd_ldone
  have v5 := c__law_is_done (k := 4) T XK t10 (v4.mono (by decide)) tI (by simp) (by
    intro p hp e
    simp at hp
    rcases hp with rfl | rfl
    · rfl
    · exact absurd e.symm ne) hL rd_is_done
  have v6 := c__law_right (k := 7) T (v2.mono (by decide)) (u2.mono (by decide)) (v1.mono (by decide)) (t7.mono (by decide)) (t6.mono (by decide)) (v4.mono (by decide)) (t10.mono (by decide)) (be 4) (u1.mono (by decide)) v5 rd_lright
  have v7 := c__law_pot (P := P) (w := w) (base := base) (k := 0) (TT := TT2 PI PL) T rd_pot
  have v8 := c__law_places (P := P) (w := w) (base := base) (k := 0) (TT := TT2 PI PL) T rd_places
  obtain ⟨fD, aD, gD⟩ := t6.at
  obtain ⟨fE, aE, gE⟩ := t7.at
  exact c_law (k := 48) T XK gE gD (S_call := S_of fD fE) (fun f sp h => by
    rcases h with ⟨rfl, rfl⟩ | ⟨rfl, rfl⟩
    · exact aD.mono (by decide)
    · exact aE.mono (by decide)) (t10.mono (by decide)) (v8.mono (by decide)) (v7.mono (by decide)) (v6.mono (by decide)) (t6.mono (by decide)) tL (by simp) (by
    intro p hp e
    simp at hp
    rcases hp with rfl | rfl
    · exact absurd e ne
    · rfl) lk hcd (rd_law fD fE)
end
/-! ### the exceptions -/
section
variable {K : PySem.W.Frag} {h : Heap} {mg : Str → Option Value}
/-- what the written part says of a class of exceptions -/
structure Cls (K : PySem.W.Frag) (x : Str) (C : Addr) : Prop where
  a : PySem.W.nsIn K mainGlobals x = some (some (.ref C))
  o : OexC K C
  i : ∃ fI : Addr, PySem.W.findIn K (.ref C) "__init__" = some (some (.ref fI)) ∧ PySem.W.typeIn K (.ref fI) = some (.type "function") ∧ ∃ fd : FuncData, L2.Fun K "__init__" "TextError.__init__" st_init fI fd ∧ Binds K fd ["self", "value"] []
  nv : PySem.W.findIn K (.ref C) "value" = some none
  xf : XfC K C
  xc : ExcC K C
theorem exc_of {P : Program} {w : World} {base : Heap} (X : K.In h) (G : h.Ns mainGlobals mg) {x : Str} {C : Addr} (c : Cls K x C) (mv : PySem.W.nsIn K mainGlobals "ValueError" = some none) (vV : PySem.W.findCls K (.type "ValueError") (.type "type") "__init__" = some (.val (.builtin "ValueError.__init__"))) : ExC P w K mg base x := by
  obtain ⟨fI, i1, i2, fd, F, b⟩ := c.i
  exact ⟨C, fI, fd, PySem.W.mg_of X G c.a, c.a, c.o, i1, i2, c.nv, ok_init F (PySem.W.mg_none_of X G mv) vV, b⟩
theorem kns_of (X : K.In h) (G : h.Ns mainGlobals mg) {CS CT CE : Addr} (aS : PySem.W.nsIn K mainGlobals "TextError" = some (some (.ref CS))) (cT : Cls K "BadText" CT) (cE : Cls K "BadEdits" CE)
    (s1 : PySem.W.exmOne K (.ref CT) (.ref CS) = some true) (s2 : PySem.W.exmOne K (.ref CE) (.ref CS) = some true)
    (k1 : PySem.W.kitOne K (.ref CT) (.ref CT) = some true) (k2 : PySem.W.kitOne K (.ref CE) (.ref CT) = some false) (k3 : PySem.W.kitOne K (.ref CT) (.ref CE) = some false) (k4 : PySem.W.kitOne K (.ref CE) (.ref CE) = some true) : Kns K mg CS CT CE := by
  have at_ : ∀ {x : Str} {C D : Addr}, Cls K x D → PySem.W.nsIn K mainGlobals x = some (some (.ref C)) → C = D := fun c e => by
    have := e.symm.trans c.a
    cases this
    rfl
  have ne1 : isC "BadText" "BadEdits" = false := by decide
  have ne2 : isC "BadEdits" "BadText" = false := by decide
  refine ⟨PySem.W.mg_of X G aS, PySem.W.mg_of X G cT.a, PySem.W.mg_of X G cE.a, ⟨?_⟩, ?_, ?_, ?_⟩
  · rintro x C (rfl | rfl) e
    · obtain rfl := at_ cT e; exact ⟨cT.xf, cT.xc, cT.nv⟩
    · obtain rfl := at_ cE e; exact ⟨cE.xf, cE.xc, cE.nv⟩
  · rintro x C (rfl | rfl) e
    · obtain rfl := at_ cT e; exact s1
    · obtain rfl := at_ cE e; exact s2
  · rintro x C (rfl | rfl) e
    · obtain rfl := at_ cT e; rw [isC_same]; exact k1
    · obtain rfl := at_ cE e; rw [ne1]; exact k2
  · rintro x C (rfl | rfl) e
    · obtain rfl := at_ cT e; rw [ne2]; exact k3
    · obtain rfl := at_ cE e; rw [isC_same]; exact k4
theorem cls_mk {x : Str} {C fI : Addr} {nm q N bs bm sn sub ab col dd k0 k1 k2 k3 k5} {oc : Value} {od : Option Addr} {kV doc pm : Value} {an : Option Addr} {cd ct : Value} {osl : Array (Option Value)}
    (a : PySem.W.nsIn K mainGlobals x = some (some (.ref C))) (l : K.lookup C = some (excClassObj nm q C N bs bm true sn sub ab col dd k0 k1 k2 k3 k5 "ValueError.__new__")) (r : PySem.HandSPX.refsVE bm = true)
    (sa : PySem.W.findIn K (.ref C) "__setattr__" = some (some (.builtin "object.__setattr__"))) (ex : PySem.W.subIn K (.ref C) (.type "BaseException") = some true) (ty : PySem.W.typeIn K (.ref C) = some (.type "type")) (kC : PySem.W.keepIn K (.ref C) = true)
    (i1 : PySem.W.findIn K (.ref C) "__init__" = some (some (.ref fI))) (i2 : PySem.W.typeIn K (.ref fI) = some (.type "function")) (lI : K.lookup fI = some ⟨oc, od, .func (PySem.W.fnOf "__init__" "TextError.__init__" (L2.defArgs st_init) (L2.defBody st_init) (L2.defScope st_init) .none kV doc pm an cd ct), osl⟩)
    (cI : PySem.W.codeIn K cd "TextError.__init__" = true) (kI : PySem.W.keepIn K (.ref fI) = true) (nv : PySem.W.findIn K (.ref C) "value" = some none)
    (ga : PySem.W.findIn K (.ref C) "__getattribute__" = some (some (.builtin "BaseException.__getattribute__"))) (gg : PySem.W.findIn K (.ref C) "__getattr__" = some none) (hd : PySem.W.hasDictIn K C = true)
    (ha : PySem.W.findIn K (.ref C) "__class__" = some (some (.builtin "object.__class__"))) (hn : PySem.W.specialIn K (.builtin "object.__class__") "__get__" = some (some (.builtin "getset_descriptor.__get__"))) (ht : PySem.W.takesIn K (.builtin "object.__class__") = some true) (hm : PySem.W.mroIn K C (.type "object") = some true) : Cls K x C := by
  refine ⟨a, ⟨⟨nm, q, N, bs, bm, sn, sub, ab, col, dd, k0, k1, k2, k3, k5, l, r⟩, sa, ex, ty, kC⟩, ⟨fI, i1, i2, _, ⟨⟨oc, od, kV, doc, pm, an, cd, ct, osl, rfl, lI, cI⟩, kI⟩, .all fun us hl => match us, hl with | [_, _], _ => rfl⟩, nv, ⟨ga, gg, ex, hd⟩, ⟨ga, gg, ex, hd, ha, hn, ht, hm⟩⟩
/-- the heap without its tables -/
def noTab (H : L2.Hp) : L2.Hp := fun b => match H b with
  | some (.tbl _) => none
  | o => o
theorem noTab_sub (H : L2.Hp) : L2.Same (noTab H) H := by
  intro b o e
  unfold noTab at e
  split at e
  · cases e
  · exact e
theorem noTab_nt (H : L2.Hp) (b : Addr) (ps : Array Value) : noTab H b ≠ some (.tbl ps) := by
  intro e
  unfold noTab at e
  split at e
  · cases e
  · rename_i h
    exact h ps e
theorem noTab_keep {H : L2.Hp} {b : Addr} {o : L2.HO} (h : H b = some o) (n : ∀ ps, o ≠ .tbl ps) : noTab H b = some o := by
  unfold noTab
  split
  · rename_i ps e
    rw [h] at e
    cases e
    exact absurd rfl (n ps)
  · exact h
theorem due {H : L2.Hp} {a PI PL : Addr} {ns : List Int} (hl : ns.length ≤ 63) (hS : L2.SqL K H a (ns.map L2.V.int)) (h1 : H PI = some (.tbl #[])) (h2 : H PL = some (.tbl #[])) : lift K (TT2 PI PL) (quiet sp_law) [.ref a] H (fun v _ => v = .bl true) fun _ _ _ => False := by
  have hS' : L2.SqL K (noTab H) a (ns.map L2.V.int) := by
    rcases hS with (e | ⟨o, e⟩) | e
    · exact .inl (.inl (noTab_keep e fun ps z => by cases z))
    · exact .inl (.inr ⟨o, noTab_keep e fun ps z => by cases z⟩)
    · exact .inr e
  refine ⟨[.slst (ns.map D.int)], noTab H, fun _ => none, fun d _ => d = .bl true, fun _ _ _ => False, .cons (.slst hS' (of_ints ns)) .nil, ⟨noTab_sub H, (fun a m e => nomatch e), noTab_nt H⟩, ?_, ⟨ns, rfl, hl, fun _ => rfl⟩, ?_, fun _ _ _ _ _ _ _ _ _ z => z.elim⟩
  · intro p hp
    simp at hp
    rcases hp with rfl | rfl
    · exact .nil h1
    · exact .nil h2
  · rintro v d F M H' s rp rfl
    cases rp
    rfl
/-- what the end asks of the written part -/
structure End83 (q : Program) (K : PySem.W.Frag) (mg : Str → Option Value) (fa : Addr) : Prop where
  law : mg "law" = some (.ref fa)
  txt : Txt K mg
  dL : Dfn K "law" st_law
  dI : Dfn K "_law_is_done" st__law_is_done
  tabs : ∃ cI PI cL PL : Addr, TabsOf q K [("_law_is_done", cI, PI), ("law", cL, PL)] ∧ PI ≠ PL
  exs : ∀ (P : Program) (w : World) (base : Heap), Exs P w K mg base
  kns : ∃ CS CT CE : Addr, Kns K mg CS CT CE
theorem walk {l : PySem.W.OpenLaw} {q : Program} {loose : List Str} {XP : (Str → Option Value) → Heap → Prop} {YP : World → Heap → Prop} {d : DefRec} {K : Params → PySem.W.Frag} (hn : l.most = some 63) (hdf : d.params.defaults = [])
    (hY : ∀ (w : World) (h : Heap), YP w h → (K w.params).In h)
    (F : ∀ (w : World) (mg : Str → Option Value) (fa : Addr) (h : Heap), (K w.params).In h → h.Ns mainGlobals mg → mg d.name = some (.ref fa) → End83 q (K w.params) mg fa) :
    PySem.W.WalkO q loose XP YP l.row.toRowW d [] (fun f vs => PySem.call f vs) := by
  refine gwalkT (n := 63) (k := 51) (x := "script") hn (by decide) hdf ⟨rfl, by decide, by decide⟩ hY ?_
  intro w mg fa h X G m
  have E := F w mg fa h X G m
  obtain ⟨cI, PI, cL, PL, tabs, ne⟩ := E.tabs
  obtain ⟨CS, CT, CE, XK⟩ := E.kns
  obtain ⟨f, oc, od, kV, doc, pm, an, cd, ct, osl, a, lk, hcd, k⟩ := E.dL
  have e := E.law.symm.trans (PySem.W.mg_of X G a)
  cases e
  have tI := tabs ("_law_is_done", cI, PI) (by simp)
  have tL := tabs ("law", cL, PL) (by simp)
  obtain rfl := code_tab a lk tL.2.1
  have hL := hasL_of (ps := ["text", "value"]) X G E.dI tI.2.1 fun _ _ _ _ _ _ us hl => match us, hl with | [_, _], _ => rfl
  refine ⟨_, lift (K w.params) (TT2 PI PL) (quiet sp_law), PySem.W.fnOf "law" "law" (L2.defArgs st_law) (L2.defBody st_law) (L2.defScope st_law) .none kV doc pm an (.ref cL) ct, tabs, fun s v => .of_eq rfl, ?_, ?_⟩
  · intro H a ns hl hT hS
    exact due hl hS (hT ("_law_is_done", cI, PI) (by simp)) (hT ("law", cL, PL) (by simp))
  · intro base KB NB TB
    exact all_law E.txt (E.exs _ _ _) XK (TB ("_law_is_done", cI, PI) (by simp)) (TB ("law", cL, PL) (by simp)) ne hL lk hcd
end
end K83

set_option maxHeartbeats 8000000
/-! K83z: the end. -/
namespace K83
open PySem PySem.Spec L2 DL KB
open PyProof.Rows hiding St signs

theorem txt_mk {K : PySem.W.Frag} {h : Heap} {mg : Str → Option Value} (X : K.In h) (G : h.Ns mainGlobals mg) {t_IN : Tok} {t_MOST_EDITS : Tok} {t_MOST_TEXT : Tok} {t_OUT : Tok} {t_PAIR : Tok} {t_SIGNS : Tok} {t_TRIPLE : Tok} {t_TURN : Tok}
    (z_abs : PySem.W.nsIn K mainGlobals "abs" = some none)
    (z_all : PySem.W.nsIn K mainGlobals "all" = some none)
    (z_bool : PySem.W.nsIn K mainGlobals "bool" = some none)
    (z_enumerate : PySem.W.nsIn K mainGlobals "enumerate" = some none)
    (z_int : PySem.W.nsIn K mainGlobals "int" = some none)
    (z_isinstance : PySem.W.nsIn K mainGlobals "isinstance" = some none)
    (z_len : PySem.W.nsIn K mainGlobals "len" = some none)
    (z_list : PySem.W.nsIn K mainGlobals "list" = some none)
    (z_max : PySem.W.nsIn K mainGlobals "max" = some none)
    (z_min : PySem.W.nsIn K mainGlobals "min" = some none)
    (z_range : PySem.W.nsIn K mainGlobals "range" = some none)
    (z_repr : PySem.W.nsIn K mainGlobals "repr" = some none)
    (z_str : PySem.W.nsIn K mainGlobals "str" = some none)
    (z_sum : PySem.W.nsIn K mainGlobals "sum" = some none)
    (z_tuple : PySem.W.nsIn K mainGlobals "tuple" = some none)
    (a_IN : PySem.W.nsIn K mainGlobals "IN" = some (some (.str "in" t_IN)))
    (a_MOST_EDITS : PySem.W.nsIn K mainGlobals "MOST_EDITS" = some (some (.int 200 t_MOST_EDITS)))
    (a_MOST_TEXT : PySem.W.nsIn K mainGlobals "MOST_TEXT" = some (some (.int 100 t_MOST_TEXT)))
    (a_OUT : PySem.W.nsIn K mainGlobals "OUT" = some (some (.str "out" t_OUT)))
    (a_PAIR : PySem.W.nsIn K mainGlobals "PAIR" = some (some (.int 2 t_PAIR)))
    (a_SIGNS : PySem.W.nsIn K mainGlobals "SIGNS" = some (some (.str "\x0a ,-.0123456789:;=abcdefghijklmnopqrstuvwxyz" t_SIGNS)))
    (a_TRIPLE : PySem.W.nsIn K mainGlobals "TRIPLE" = some (some (.int 3 t_TRIPLE)))
    (a_TURN : PySem.W.nsIn K mainGlobals "TURN" = some (some (.str "turn" t_TURN)))
    (d_is_tuple : Dfn K "is_tuple" st_is_tuple)
    (d_is_whole : Dfn K "is_whole" st_is_whole)
    (d_is_short : Dfn K "is_short" st_is_short)
    (d_check_text : Dfn K "check_text" st_check_text)
    (d_distances : Dfn K "distances" st_distances)
    (d_distance : Dfn K "distance" st_distance)
    (d_edits : Dfn K "edits" st_edits)
    (d_is_edit : Dfn K "is_edit" st_is_edit)
    (d_edited : Dfn K "edited" st_edited)
    (d_edited_by : Dfn K "edited_by" st_edited_by)
    (d__law_pot : Dfn K "_law_pot" st__law_pot)
    (d__law_take : Dfn K "_law_take" st__law_take)
    (d__law_of : Dfn K "_law_of" st__law_of)
    (d__law_places : Dfn K "_law_places" st__law_places)
    (d__law_heard : Dfn K "_law_heard" st__law_heard)
    (d__law_odd : Dfn K "_law_odd" st__law_odd)
    (d__law_bent : Dfn K "_law_bent" st__law_bent)
    (d__law_n_distance : Dfn K "_law_n_distance" st__law_n_distance)
    (d__law_n_any : Dfn K "_law_n_any" st__law_n_any)
    (d__law_signs_of_all : Dfn K "_law_signs_of_all" st__law_signs_of_all)
    (d__law_done : Dfn K "_law_done" st__law_done)
    (d__law_is_done : Dfn K "_law_is_done" st__law_is_done)
    (d__law_right : Dfn K "_law_right" st__law_right) : Txt K mg where
  m_abs := PySem.W.mg_none_of X G z_abs
  m_all := PySem.W.mg_none_of X G z_all
  m_bool := PySem.W.mg_none_of X G z_bool
  m_enumerate := PySem.W.mg_none_of X G z_enumerate
  m_int := PySem.W.mg_none_of X G z_int
  m_isinstance := PySem.W.mg_none_of X G z_isinstance
  m_len := PySem.W.mg_none_of X G z_len
  m_list := PySem.W.mg_none_of X G z_list
  m_max := PySem.W.mg_none_of X G z_max
  m_min := PySem.W.mg_none_of X G z_min
  m_range := PySem.W.mg_none_of X G z_range
  m_repr := PySem.W.mg_none_of X G z_repr
  m_str := PySem.W.mg_none_of X G z_str
  m_sum := PySem.W.mg_none_of X G z_sum
  m_tuple := PySem.W.mg_none_of X G z_tuple
  g_IN := glob_str X G a_IN
  g_MOST_EDITS := glob_int X G a_MOST_EDITS
  g_MOST_TEXT := glob_int X G a_MOST_TEXT
  g_OUT := glob_str X G a_OUT
  g_PAIR := glob_int X G a_PAIR
  g_SIGNS := glob_str X G a_SIGNS
  g_TRIPLE := glob_int X G a_TRIPLE
  g_TURN := glob_str X G a_TURN
  h_is_tuple := has_of X G d_is_tuple fun _ _ _ _ _ _ us hl => match us, hl with | [_, _, _], _ => rfl
  h_is_whole := has_of X G d_is_whole fun _ _ _ _ _ _ us hl => match us, hl with | [_], _ => rfl
  h_is_short := has_of X G d_is_short fun _ _ _ _ _ _ us hl => match us, hl with | [_], _ => rfl
  h_check_text := has_of X G d_check_text fun _ _ _ _ _ _ us hl => match us, hl with | [_], _ => rfl
  h_distances := has_of X G d_distances fun _ _ _ _ _ _ us hl => match us, hl with | [_, _], _ => rfl
  h_distance := has_of X G d_distance fun _ _ _ _ _ _ us hl => match us, hl with | [_, _], _ => rfl
  h_edits := has_of X G d_edits fun _ _ _ _ _ _ us hl => match us, hl with | [_, _], _ => rfl
  h_is_edit := has_of X G d_is_edit fun _ _ _ _ _ _ us hl => match us, hl with | [_], _ => rfl
  h_edited := has_of X G d_edited fun _ _ _ _ _ _ us hl => match us, hl with | [_, _], _ => rfl
  h_edited_by := has_of X G d_edited_by fun _ _ _ _ _ _ us hl => match us, hl with | [_, _], _ => rfl
  h__law_pot := has_of X G d__law_pot fun _ _ _ _ _ _ us hl => match us, hl with | [_, _], _ => rfl
  h__law_take := has_of X G d__law_take fun _ _ _ _ _ _ us hl => match us, hl with | [_, _], _ => rfl
  h__law_of := has_of X G d__law_of fun _ _ _ _ _ _ us hl => match us, hl with | [_, _], _ => rfl
  h__law_places := has_of X G d__law_places fun _ _ _ _ _ _ us hl => match us, hl with | [_, _], _ => rfl
  h__law_heard := has_of X G d__law_heard fun _ _ _ _ _ _ us hl => match us, hl with | [_], _ => rfl
  h__law_odd := has_of X G d__law_odd fun _ _ _ _ _ _ us hl => match us, hl with | [_], _ => rfl
  h__law_bent := has_of X G d__law_bent fun _ _ _ _ _ _ us hl => match us, hl with | [_, _], _ => rfl
  h__law_n_distance := has_of X G d__law_n_distance fun _ _ _ _ _ _ us hl => match us, hl with | [_, _], _ => rfl
  h__law_n_any := has_of X G d__law_n_any fun _ _ _ _ _ _ us hl => match us, hl with | [_, _, _], _ => rfl
  h__law_signs_of_all := has_of X G d__law_signs_of_all fun _ _ _ _ _ _ us hl => match us, hl with | [], _ => rfl
  h__law_done := has_of X G d__law_done fun _ _ _ _ _ _ us hl => match us, hl with | [_, _], _ => rfl
  h__law_is_done := has_of X G d__law_is_done fun _ _ _ _ _ _ us hl => match us, hl with | [_, _], _ => rfl
  h__law_right := has_of X G d__law_right fun _ _ _ _ _ _ us hl => match us, hl with | [_], _ => rfl
section
variable {K : PySem.W.Frag} {x : Str} {st : Stmt} {f c PP : Addr} {oc oc2 : Value} {od od2 : Option Addr} {dV kV doc pm : Value} {an : Option Addr} {ct : Value} {osl osl2 : Array (Option Value)} {vs : Array Value}
theorem tab_mk (a : PySem.W.nsIn K mainGlobals x = some (some (.ref f))) (l : K.lookup f = some ⟨oc, od, .func (PySem.W.fnOf x x (L2.defArgs st) (L2.defBody st) (L2.defScope st) dV kV doc pm an (.ref c) ct), osl⟩) (l2 : K.lookup c = some ⟨oc2, od2, .fields vs, osl2⟩) (v : (vs[11]? : Option Value) = some (.ref PP)) : PySem.W.tabIn K x = some (c, PP) := by
  unfold PySem.W.tabIn
  rw [a]
  simp only [l]
  show (match K.lookup c with | some ⟨_, _, .fields vs, _⟩ => _ | _ => none) = _
  rw [l2]
  simp only [v]
theorem tabs_mk {q : Program} {x1 x2 : Str} {c1 P1 c2 P2 : Addr} (f1 : ((recsOf q).find? fun e => e.name == x1).isSome = true) (t1 : PySem.W.tabIn K x1 = some (c1, P1)) (n1 : K.lookup P1 = none) (f2 : ((recsOf q).find? fun e => e.name == x2).isSome = true) (t2 : PySem.W.tabIn K x2 = some (c2, P2)) (n2 : K.lookup P2 = none) :
    TabsOf q K [(x1, c1, P1), (x2, c2, P2)] := by
  intro c hc
  simp at hc
  rcases hc with rfl | rfl
  · exact ⟨f1, t1, n1⟩
  · exact ⟨f2, t2, n2⟩
end
end K83
open PySem PySem.W PyProof.Rows
set_option maxRecDepth 100000 in
set_option maxHeartbeats 0 in
theorem PySem.Challenge.cw_eithermended_k83_whole_edits_between_tex_holds : PySem.Challenge.rw_eithermended_k83_whole_edits_between_tex.Holds := by
  w_on; o_law; k_head; (case hw => w_witness2)
  k_fill
  refine K83.walk (l := PySem.Challenge.rw_eithermended_k83_whole_edits_between_tex) rfl rfl (fun w h Y => PySem.W.km_in_of Y) ?F
  case F =>
    intro w mg fa h KX G hmg
    refine ⟨hmg, ?TX, ?DL, ?DI, ?TB, ?EX, ?KN⟩
    (case DL => (refine' DL.dfn_mk ?a ?l ?c ?k; (case a => k_is); (case l => k_is); (case c => k_is); (case k => k_is)))
    (case DI => (refine' DL.dfn_mk ?a ?l ?c ?k; (case a => k_is); (case l => k_is); (case c => k_is); (case k => k_is)))
    (case TX =>
      refine' K83.txt_mk KX G ?z_abs ?z_all ?z_bool ?z_enumerate ?z_int ?z_isinstance ?z_len ?z_list ?z_max ?z_min ?z_range ?z_repr ?z_str ?z_sum ?z_tuple ?a_IN ?a_MOST_EDITS ?a_MOST_TEXT ?a_OUT ?a_PAIR ?a_SIGNS ?a_TRIPLE ?a_TURN ?d_is_tuple ?d_is_whole ?d_is_short ?d_check_text ?d_distances ?d_distance ?d_edits ?d_is_edit ?d_edited ?d_edited_by ?d__law_pot ?d__law_take ?d__law_of ?d__law_places ?d__law_heard ?d__law_odd ?d__law_bent ?d__law_n_distance ?d__law_n_any ?d__law_signs_of_all ?d__law_done ?d__law_is_done ?d__law_right
      (case z_abs => k_is)
      (case z_all => k_is)
      (case z_bool => k_is)
      (case z_enumerate => k_is)
      (case z_int => k_is)
      (case z_isinstance => k_is)
      (case z_len => k_is)
      (case z_list => k_is)
      (case z_max => k_is)
      (case z_min => k_is)
      (case z_range => k_is)
      (case z_repr => k_is)
      (case z_str => k_is)
      (case z_sum => k_is)
      (case z_tuple => k_is)
      (case a_IN => k_is)
      (case a_MOST_EDITS => k_is)
      (case a_MOST_TEXT => k_is)
      (case a_OUT => k_is)
      (case a_PAIR => k_is)
      (case a_SIGNS => k_is)
      (case a_TRIPLE => k_is)
      (case a_TURN => k_is)
      (case d_is_tuple => (refine' DL.dfn_mk ?a ?l ?c ?k; (case a => k_is); (case l => k_is); (case c => k_is); (case k => k_is)))
      (case d_is_whole => (refine' DL.dfn_mk ?a ?l ?c ?k; (case a => k_is); (case l => k_is); (case c => k_is); (case k => k_is)))
      (case d_is_short => (refine' DL.dfn_mk ?a ?l ?c ?k; (case a => k_is); (case l => k_is); (case c => k_is); (case k => k_is)))
      (case d_check_text => (refine' DL.dfn_mk ?a ?l ?c ?k; (case a => k_is); (case l => k_is); (case c => k_is); (case k => k_is)))
      (case d_distances => (refine' DL.dfn_mk ?a ?l ?c ?k; (case a => k_is); (case l => k_is); (case c => k_is); (case k => k_is)))
      (case d_distance => (refine' DL.dfn_mk ?a ?l ?c ?k; (case a => k_is); (case l => k_is); (case c => k_is); (case k => k_is)))
      (case d_edits => (refine' DL.dfn_mk ?a ?l ?c ?k; (case a => k_is); (case l => k_is); (case c => k_is); (case k => k_is)))
      (case d_is_edit => (refine' DL.dfn_mk ?a ?l ?c ?k; (case a => k_is); (case l => k_is); (case c => k_is); (case k => k_is)))
      (case d_edited => (refine' DL.dfn_mk ?a ?l ?c ?k; (case a => k_is); (case l => k_is); (case c => k_is); (case k => k_is)))
      (case d_edited_by => (refine' DL.dfn_mk ?a ?l ?c ?k; (case a => k_is); (case l => k_is); (case c => k_is); (case k => k_is)))
      (case d__law_pot => (refine' DL.dfn_mk ?a ?l ?c ?k; (case a => k_is); (case l => k_is); (case c => k_is); (case k => k_is)))
      (case d__law_take => (refine' DL.dfn_mk ?a ?l ?c ?k; (case a => k_is); (case l => k_is); (case c => k_is); (case k => k_is)))
      (case d__law_of => (refine' DL.dfn_mk ?a ?l ?c ?k; (case a => k_is); (case l => k_is); (case c => k_is); (case k => k_is)))
      (case d__law_places => (refine' DL.dfn_mk ?a ?l ?c ?k; (case a => k_is); (case l => k_is); (case c => k_is); (case k => k_is)))
      (case d__law_heard => (refine' DL.dfn_mk ?a ?l ?c ?k; (case a => k_is); (case l => k_is); (case c => k_is); (case k => k_is)))
      (case d__law_odd => (refine' DL.dfn_mk ?a ?l ?c ?k; (case a => k_is); (case l => k_is); (case c => k_is); (case k => k_is)))
      (case d__law_bent => (refine' DL.dfn_mk ?a ?l ?c ?k; (case a => k_is); (case l => k_is); (case c => k_is); (case k => k_is)))
      (case d__law_n_distance => (refine' DL.dfn_mk ?a ?l ?c ?k; (case a => k_is); (case l => k_is); (case c => k_is); (case k => k_is)))
      (case d__law_n_any => (refine' DL.dfn_mk ?a ?l ?c ?k; (case a => k_is); (case l => k_is); (case c => k_is); (case k => k_is)))
      (case d__law_signs_of_all => (refine' DL.dfn_mk ?a ?l ?c ?k; (case a => k_is); (case l => k_is); (case c => k_is); (case k => k_is)))
      (case d__law_done => (refine' DL.dfn_mk ?a ?l ?c ?k; (case a => k_is); (case l => k_is); (case c => k_is); (case k => k_is)))
      (case d__law_is_done => (refine' DL.dfn_mk ?a ?l ?c ?k; (case a => k_is); (case l => k_is); (case c => k_is); (case k => k_is)))
      (case d__law_right => (refine' DL.dfn_mk ?a ?l ?c ?k; (case a => k_is); (case l => k_is); (case c => k_is); (case k => k_is))))
    (case TB =>
      refine' ⟨_, _, _, _, K83.tabs_mk ?f1 (K83.tab_mk (st := K83.st__law_is_done) ?a1 ?l1 ?m1 ?v1) ?n1 ?f2 (K83.tab_mk (st := K83.st_law) ?a2 ?l2 ?m2 ?v2) ?n2, ?ne⟩
      (case a1 => k_is)
      (case l1 => k_is)
      (case m1 => k_is)
      (case v1 => rfl)
      (case a2 => k_is)
      (case l2 => k_is)
      (case m2 => k_is)
      (case v2 => rfl)
      (case f1 => rfl)
      (case f2 => rfl)
      (case n1 => kernel_rfl)
      (case n2 => kernel_rfl)
      (case ne => decide))
    (case EX =>
      intro P0 w0 base0
      refine' ⟨K83.exc_of KX G ?c1 ?mv ?vV, K83.exc_of KX G ?c2 ?mv2 ?vV2⟩
      (case c1 => (refine' K83.cls_mk ?a ?l ?r ?sa ?ex ?ty ?kC ?i1 ?i2 ?lI ?cI ?kI ?nv ?ga ?gg ?hd ?ha ?hn ?ht ?hm; (case a => k_is); (case l => k_is); (case r => rfl); (case sa => k_is); (case ex => k_is); (case ty => k_is); (case kC => k_is); (case i1 => k_is); (case i2 => k_is); (case lI => k_is); (case cI => k_is); (case kI => k_is); (case nv => k_is); (case ga => k_is); (case gg => k_is); (case hd => k_is); (case ha => k_is); (case hn => k_is); (case ht => k_is); (case hm => k_is)))
      (case c2 => (refine' K83.cls_mk ?a ?l ?r ?sa ?ex ?ty ?kC ?i1 ?i2 ?lI ?cI ?kI ?nv ?ga ?gg ?hd ?ha ?hn ?ht ?hm; (case a => k_is); (case l => k_is); (case r => rfl); (case sa => k_is); (case ex => k_is); (case ty => k_is); (case kC => k_is); (case i1 => k_is); (case i2 => k_is); (case lI => k_is); (case cI => k_is); (case kI => k_is); (case nv => k_is); (case ga => k_is); (case gg => k_is); (case hd => k_is); (case ha => k_is); (case hn => k_is); (case ht => k_is); (case hm => k_is)))
      (case mv => k_is)
      (case mv2 => k_is)
      (case vV => k_is)
      (case vV2 => k_is))
    (case KN =>
      refine' ⟨_, _, _, K83.kns_of KX G ?aS ?cT ?cE (PySem.W.exm_ref ?s1 ?s2 ?s3 ?s4) (PySem.W.exm_ref ?r1 ?r2 ?r3 ?r4) ?k1 ?k2 ?k3 ?k4⟩
      (case aS => k_is)
      (case cT => (refine' K83.cls_mk ?a ?l ?r ?sa ?ex ?ty ?kC ?i1 ?i2 ?lI ?cI ?kI ?nv ?ga ?gg ?hd ?ha ?hn ?ht ?hm; (case a => k_is); (case l => k_is); (case r => rfl); (case sa => k_is); (case ex => k_is); (case ty => k_is); (case kC => k_is); (case i1 => k_is); (case i2 => k_is); (case lI => k_is); (case cI => k_is); (case kI => k_is); (case nv => k_is); (case ga => k_is); (case gg => k_is); (case hd => k_is); (case ha => k_is); (case hn => k_is); (case ht => k_is); (case hm => k_is)))
      (case cE => (refine' K83.cls_mk ?a ?l ?r ?sa ?ex ?ty ?kC ?i1 ?i2 ?lI ?cI ?kI ?nv ?ga ?gg ?hd ?ha ?hn ?ht ?hm; (case a => k_is); (case l => k_is); (case r => rfl); (case sa => k_is); (case ex => k_is); (case ty => k_is); (case kC => k_is); (case i1 => k_is); (case i2 => k_is); (case lI => k_is); (case cI => k_is); (case kI => k_is); (case nv => k_is); (case ga => k_is); (case gg => k_is); (case hd => k_is); (case ha => k_is); (case hn => k_is); (case ht => k_is); (case hm => k_is)))
      (case s1 => k_is)
      (case s2 => k_is)
      (case s3 => k_is)
      (case s4 => k_is)
      (case r1 => k_is)
      (case r2 => k_is)
      (case r3 => k_is)
      (case r4 => k_is)
      (case k1 => kit_is)
      (case k2 => kit_is)
      (case k3 => kit_is)
      (case k4 => kit_is))

