import PyProof.Rows.All
import Wide.All
import OpenK.AllK
import Wide.FinOn
import HandS.ForMost
import HandS.Walk
import HandS.Lambda
import HandS.ExcOwn
import HandS.Wide
import HandS.TupAny
import HandS.IsInst
import HandS.Conv
import HandS.WideBits
import KE.GoesEnum
import KE.GoesMore
import HandS.Style
import HandS.SetFor
import HandS.Sort
import PyProof.StrWalks
import PyProof.ListStr
import HandS.Defaults
import HandS.ExcInit
import HandS.WordsExc
import PySem.Challenge.RW_eithermended_k02_types_written_and_read
import HandS.ExcIs
import HandS.ExcField
import KE.KExcIs
import HandS.EndBits
import KE.KNest
import HandS.Flt
import PyProof.EnumMake
import HandS.TupMul
import HandS.Replace
import HandS.ReplaceList
import HandS.Codes
set_option Elab.async false
set_option linter.all false
set_option maxRecDepth 100000
/-! DL1: plain data over the hand layer: values by content, what may change by address; the judgements lifted to it. -/
namespace DL
open PySem PySem.Spec L2
open PyProof.Rows hiding St

/-- plain data; ref: an object told by its address -/
inductive D where
  | non | bl (b : Bool) | int (i : Int) | str (x : Str) | tup (xs : List D) | lst (xs : List D) | slst (xs : List D) | ref (a : Addr) | dct (ks : List (Int ⊕ Str)) (xs : List D) | exc (x : Str) (v : D)

/-- at a: an exception of the class at C that was caught, its dict at dx -/
def ExK (C dx a : Addr) : HO := .ext fun h => ∃ (oe : Obj) (vs : Array Value), h.get? a = some oe ∧ Zc (.ref C) (some dx) oe ∧ oe.data = .fields vs
mutual
inductive Rp (K : PySem.W.Frag) (F : Hp) : V → D → Prop
  | non : Rp K F .non .non
  | bl (b : Bool) : Rp K F (.bl b) (.bl b)
  | int (i : Int) : Rp K F (.int i) (.int i)
  | str (x : Str) : Rp K F (.str x) (.str x)
  | ref (a : Addr) : Rp K F (.ref a) (.ref a)
  | tup {a : Addr} {xs : List V} {ds : List D} : SqT K F a xs → RpAll K F xs ds → Rp K F (.ref a) (.tup ds)
  | lst {a : Addr} {xs : List V} {ds : List D} : F a = some (.lst xs) → RpAll K F xs ds → Rp K F (.ref a) (.lst ds)
  | slst {a : Addr} {xs : List V} {ds : List D} : SqL K F a xs → RpAll K F xs ds → Rp K F (.ref a) (.slst ds)
  | dct {a : Addr} {ks : List (Int ⊕ Str)} {xs : List V} {ds : List D} : F a = some (.dK (ks.zip xs)) → ks.length = xs.length → RpAll K F xs ds → Rp K F (.ref a) (.dct ks ds)
  | exc {a C dx : Addr} {u : V} {x : Str} {v : D} : PySem.W.nsIn K mainGlobals x = some (some (.ref C)) → F a = some (ExK C dx a) → F dx = some (.xd [("value", u)]) → Rp K F u v → Rp K F (.ref a) (.exc x v)
inductive RpAll (K : PySem.W.Frag) (F : Hp) : List V → List D → Prop
  | nil : RpAll K F [] []
  | cons {v : V} {vs : List V} {d : D} {ds : List D} : Rp K F v d → RpAll K F vs ds → RpAll K F (v :: vs) (d :: ds)
end

theorem Same.tseq {K : PySem.W.Frag} {H H' : Hp} {a : Addr} {xs : List V} (e : Same H H') (h : SqT K H a xs) : SqT K H' a xs := by
  rcases h with (h | ⟨o, h⟩) | h
  · exact .inl (.inl (e _ _ h))
  · exact .inl (.inr ⟨o, e _ _ h⟩)
  · exact .inr h
mutual
theorem Rp.mono {K : PySem.W.Frag} {F F' : Hp} (e : Same F F') : ∀ {v : V} {d : D}, Rp K F v d → Rp K F' v d
  | _, _, .non => .non
  | _, _, .bl b => .bl b
  | _, _, .int i => .int i
  | _, _, .str x => .str x
  | _, _, .ref a => .ref a
  | _, _, .tup s r => .tup (Same.tseq e s) (RpAll.mono e r)
  | _, _, .lst s r => .lst (e _ _ s) (RpAll.mono e r)
  | _, _, .slst s r => .slst (e.seq s) (RpAll.mono e r)
  | _, _, .dct h l r => .dct (e _ _ h) l (RpAll.mono e r)
  | _, _, .exc n h1 h2 r => .exc n (e _ _ h1) (e _ _ h2) (Rp.mono e r)
theorem RpAll.mono {K : PySem.W.Frag} {F F' : Hp} (e : Same F F') : ∀ {vs : List V} {ds : List D}, RpAll K F vs ds → RpAll K F' vs ds
  | _, _, .nil => .nil
  | _, _, .cons h t => .cons (Rp.mono e h) (RpAll.mono e t)
end
theorem RpAll.length {K : PySem.W.Frag} {F : Hp} : ∀ {vs : List V} {ds : List D}, RpAll K F vs ds → vs.length = ds.length
  | _, _, .nil => rfl
  | _, _, .cons _ t => congrArg (· + 1) (RpAll.length t)
theorem RpAll.get {K : PySem.W.Frag} {F : Hp} : ∀ {vs : List V} {ds : List D} {i : Nat} {d : D}, RpAll K F vs ds → ds[i]? = some d → ∃ v, vs[i]? = some v ∧ Rp K F v d
  | _, _, _, _, .nil, e => by simp at e
  | _, _, 0, _, .cons h _, e => by simp at e; subst e; exact ⟨_, rfl, h⟩
  | _, _, i + 1, _, .cons _ t, e => by
    obtain ⟨v, h1, h2⟩ := RpAll.get (i := i) t (by simpa using e)
    exact ⟨v, by simpa using h1, h2⟩
theorem RpAll.get' {K : PySem.W.Frag} {F : Hp} : ∀ {vs : List V} {ds : List D} {i : Nat} {v : V}, RpAll K F vs ds → vs[i]? = some v → ∃ d, ds[i]? = some d ∧ Rp K F v d
  | _, _, _, _, .nil, e => by simp at e
  | _, _, 0, _, .cons h _, e => by simp at e; subst e; exact ⟨_, rfl, h⟩
  | _, _, i + 1, _, .cons _ t, e => by
    obtain ⟨v, h1, h2⟩ := RpAll.get' (i := i) t (by simpa using e)
    exact ⟨v, by simpa using h1, h2⟩
theorem RpAll.append {K : PySem.W.Frag} {F : Hp} : ∀ {vs ws : List V} {ds es : List D}, RpAll K F vs ds → RpAll K F ws es → RpAll K F (vs ++ ws) (ds ++ es)
  | _, _, _, _, .nil, s => s
  | _, _, _, _, .cons h t, s => .cons h (RpAll.append t s)
theorem RpAll.take {K : PySem.W.Frag} {F : Hp} : ∀ {vs : List V} {ds : List D} (n : Nat), RpAll K F vs ds → RpAll K F (vs.take n) (ds.take n)
  | _, _, 0, _ => by simpa using RpAll.nil
  | _, _, _ + 1, .nil => .nil
  | _, _, n + 1, .cons h t => .cons h (RpAll.take n t)
theorem RpAll.drop {K : PySem.W.Frag} {F : Hp} : ∀ {vs : List V} {ds : List D} (n : Nat), RpAll K F vs ds → RpAll K F (vs.drop n) (ds.drop n)
  | _, _, 0, r => by simpa using r
  | _, _, _ + 1, .nil => .nil
  | _, _, n + 1, .cons _ t => RpAll.drop n t
theorem RpAll.set {K : PySem.W.Frag} {F : Hp} {v : V} {d : D} (h : Rp K F v d) : ∀ {vs : List V} {ds : List D} (n : Nat), RpAll K F vs ds → RpAll K F (vs.set n v) (ds.set n d)
  | _, _, _, .nil => .nil
  | _, _, 0, .cons _ t => .cons h t
  | _, _, n + 1, .cons x t => .cons x (RpAll.set h n t)
theorem RpAll.dropLast {K : PySem.W.Frag} {F : Hp} {vs : List V} {ds : List D} (h : RpAll K F vs ds) : RpAll K F vs.dropLast ds.dropLast := by
  rw [List.dropLast_eq_take, List.dropLast_eq_take, h.length]
  exact h.take _
theorem RpAll.eraseIdx {K : PySem.W.Frag} {F : Hp} : ∀ {vs : List V} {ds : List D} (n : Nat), RpAll K F vs ds → RpAll K F (vs.eraseIdx n) (ds.eraseIdx n)
  | _, _, _, .nil => .nil
  | _, _, 0, .cons _ t => t
  | _, _, n + 1, .cons x t => .cons x (RpAll.eraseIdx n t)
theorem RpAll.reverse {K : PySem.W.Frag} {F : Hp} : ∀ {vs : List V} {ds : List D}, RpAll K F vs ds → RpAll K F vs.reverse ds.reverse
  | _, _, .nil => .nil
  | _, _, .cons h t => by
    rw [List.reverse_cons, List.reverse_cons]
    exact (RpAll.reverse t).append (.cons h .nil)
theorem RpAll.rep {K : PySem.W.Frag} {F : Hp} {vs : List V} {ds : List D} (h : RpAll K F vs ds) : ∀ k : Nat, RpAll K F (List.replicate k vs).flatten (List.replicate k ds).flatten
  | 0 => .nil
  | k + 1 => by
    rw [List.replicate_succ, List.replicate_succ, List.flatten_cons, List.flatten_cons]
    exact h.append (RpAll.rep h k)

/-! ### the fields of an object -/
inductive RpFs (K : PySem.W.Frag) (F : Hp) : List (Str × V) → List (Str × D) → Prop
  | nil : RpFs K F [] []
  | cons {x : Str} {v : V} {d : D} {vs : List (Str × V)} {ds : List (Str × D)} : Rp K F v d → RpFs K F vs ds → RpFs K F ((x, v) :: vs) ((x, d) :: ds)
theorem RpFs.mono {K : PySem.W.Frag} {F F' : Hp} (e : Same F F') : ∀ {vs : List (Str × V)} {ds : List (Str × D)}, RpFs K F vs ds → RpFs K F' vs ds
  | _, _, .nil => .nil
  | _, _, .cons h t => .cons (h.mono e) (RpFs.mono e t)
theorem RpFs.length {K : PySem.W.Frag} {F : Hp} : ∀ {vs : List (Str × V)} {ds : List (Str × D)}, RpFs K F vs ds → vs.length = ds.length
  | _, _, .nil => rfl
  | _, _, .cons _ t => congrArg (· + 1) (RpFs.length t)
theorem RpFs.look {K : PySem.W.Frag} {F : Hp} {f : Str} {d : D} : ∀ {vs : List (Str × V)} {ds : List (Str × D)}, RpFs K F vs ds → ds.lookup f = some d → ∃ v, vs.lookup f = some v ∧ Rp K F v d
  | _, _, .nil, e => by simp at e
  | (x, v) :: _, (_, d0) :: _, .cons h t, e => by
    by_cases q : f = x
    · have hb : (f == x) = true := beq_iff_eq.mpr q
      simp only [List.lookup, hb] at e ⊢
      cases e; exact ⟨v, rfl, h⟩
    · have hb : (f == x) = false := beq_eq_false_iff_ne.mpr q
      simp only [List.lookup, hb] at e ⊢
      exact RpFs.look t e
theorem RpFs.look0 {K : PySem.W.Frag} {F : Hp} {f : Str} : ∀ {vs : List (Str × V)} {ds : List (Str × D)}, RpFs K F vs ds → ds.lookup f = none → vs.lookup f = none
  | _, _, .nil, _ => rfl
  | (x, v) :: _, (_, d0) :: _, .cons h t, e => by
    by_cases q : f = x
    · have hb : (f == x) = true := beq_iff_eq.mpr q
      simp only [List.lookup, hb] at e
      cases e
    · have hb : (f == x) = false := beq_eq_false_iff_ne.mpr q
      simp only [List.lookup, hb] at e ⊢
      exact RpFs.look0 t e
def putD (f : Str) (v : D) : List (Str × D) → List (Str × D)
  | [] => [(f, v)]
  | (g, x) :: r => if g = f then (g, v) :: r else (g, x) :: putD f v r
theorem RpFs.put {K : PySem.W.Frag} {F : Hp} {f : Str} {v : V} {d : D} (r : Rp K F v d) : ∀ {vs : List (Str × V)} {ds : List (Str × D)}, RpFs K F vs ds → RpFs K F (putF f v vs) (putD f d ds)
  | _, _, .nil => .cons r .nil
  | (x, _) :: _, (_, _) :: _, .cons h t => by
    show RpFs K F (if x = f then _ else _) (if x = f then _ else _)
    by_cases q : x = f
    · rw [if_pos q, if_pos q]; exact .cons r t
    · rw [if_neg q, if_neg q]; exact .cons h (RpFs.put r t)

/-! ### what may change -/
inductive MO where
  | lst (ds : List D)
  | obj (x : Str) (fs : List (Str × D))
abbrev Mp := Addr → Option MO
def mu (M : Mp) (a : Addr) (o : MO) : Mp := fun b => if b = a then some o else M b
theorem mu_same {M : Mp} {a : Addr} {o : MO} : mu M a o a = some o := by unfold mu; rw [if_pos rfl]
theorem mu_ne {M : Mp} {a b : Addr} {o : MO} (h : b ≠ a) : mu M a o b = M b := by unfold mu; rw [if_neg h]
theorem mu_mu {M : Mp} {a : Addr} {o u : MO} : mu (mu M a o) a u = mu M a u := by
  funext b; unfold mu; split <;> rfl
def md (M : Mp) (a : Addr) : Mp := fun b => if b = a then none else M b
theorem md_mu {M : Mp} {a : Addr} {o : MO} (h : M a = none) : md (mu M a o) a = M := by
  funext b; unfold md mu
  by_cases e : b = a
  · rw [if_pos e, e, h]
  · rw [if_neg e, if_neg e]

def RepO (K : PySem.W.Frag) (F : Hp) : HO → MO → Prop
  | .lst xs, .lst ds => RpAll K F xs ds
  | .ins C _ fs, .obj x ds => PySem.W.nsIn K mainGlobals x = some (some (.ref C)) ∧ RpFs K F fs ds
  | _, _ => False
theorem RepO.mono {K : PySem.W.Frag} {F F' : Hp} (e : Same F F') {o : HO} {m : MO} (h : RepO K F o m) : RepO K F' o m := by
  cases o <;> cases m <;> simp only [RepO] at h ⊢
  · exact h.mono e
  · exact ⟨h.1, h.2.mono e⟩
abbrev TT8 := List (Addr × Str)
/-- what is tracked, what may change; no table of code objects is held fast -/
structure RelR (K : PySem.W.Frag) (F : Hp) (M : Mp) (H : Hp) : Prop where
  sub : Same F H
  mt : ∀ a m, M a = some m → F a = none ∧ ∃ o, H a = some o ∧ RepO K F o m
  nt : ∀ a ps, F a ≠ some (.tbl ps)

/-- a step of the state: what is held fast stays, what isn't told stays untouched and untold, the tables are kept in order -/
structure StpR (K : PySem.W.Frag) (T : TT8) (F : Hp) (M : Mp) (H : Hp) (F' : Hp) (M' : Mp) (H' : Hp) : Prop where
  same : Same F F'
  rel : RelR K F' M' H'
  fr : ∀ a o, H a = some o → F a = none → M a = none → (∀ ps, o ≠ .tbl ps) → H' a = some o ∧ F' a = none ∧ M' a = none
  tab : LamX.Tabs T H → LamX.Tabs T H'
theorem StpR.refl {K : PySem.W.Frag} {T : TT8} {F : Hp} {M : Mp} {H : Hp} (R : RelR K F M H) : StpR K T F M H F M H := ⟨Same.refl F, R, fun _ _ h f m _ => ⟨h, f, m⟩, id⟩
theorem StpR.trans {K : PySem.W.Frag} {T : TT8} {F F1 F2 : Hp} {M M1 M2 : Mp} {H H1 H2 : Hp} (a : StpR K T F M H F1 M1 H1) (b : StpR K T F1 M1 H1 F2 M2 H2) : StpR K T F M H F2 M2 H2 :=
  ⟨a.same.trans b.same, b.rel, fun x o h f m n => let ⟨h1, f1, m1⟩ := a.fr x o h f m n; b.fr x o h1 f1 m1 n, fun t => b.tab (a.tab t)⟩
section
variable {K : PySem.W.Frag} {T : TT8} {F : Hp} {M : Mp} {H : Hp}
theorem RelR.fnone (R : RelR K F M H) {p : Addr} (h : H p = none) : F p = none := R.sub.free h
theorem RelR.mnone (R : RelR K F M H) {p : Addr} (h : H p = none) : M p = none := by
  cases q : M p with
  | none => rfl
  | some m =>
    obtain ⟨_, o, e, _⟩ := R.mt p m q
    rw [h] at e; cases e
theorem same_new {F : Hp} {p : Addr} {o : HO} (h : F p = none) : Same F (upd F p o) := fun b u q => by rw [upd_ne (ne_of_none q h)]; exact q
theorem tabs_new {p : Addr} (h : H p = none) (o : HO) (t : LamX.Tabs T H) : LamX.Tabs T (upd H p o) := LamX.Tabs.ext t fun b u e => by rw [upd_ne (ne_of_none e h)]; exact e
theorem code_lst {c : Addr} {q : Str} {xs : List V} : LamX.CodeO c q ≠ .lst xs := fun h => by unfold LamX.CodeO at h; cases h
theorem tabs_lst {p : Addr} {xs ys : List V} (h : H p = some (.lst xs)) (t : LamX.Tabs T H) : LamX.Tabs T (upd H p (.lst ys)) := fun z hz => by
  obtain ⟨ps, h1, h2, h3⟩ := t z hz
  refine ⟨ps, ?_, h2, fun pos cv hc => ?_⟩
  · rw [upd_ne (fun e => by rw [e, h] at h1; cases h1)]; exact h1
  · obtain ⟨c, e1, e2⟩ := h3 pos cv hc
    refine ⟨c, e1, ?_⟩
    rw [upd_ne (fun e => by rw [e, h] at e2; exact code_lst (Option.some.inj e2).symm)]; exact e2
/-- a new object that never changes -/
theorem RelR.newF (R : RelR K F M H) {p : Addr} (h : H p = none) (o : HO) (hn : ∀ ps, o ≠ .tbl ps) : StpR K T F M H (upd F p o) M (upd H p o) := by
  have s : Same F (upd F p o) := same_new (R.fnone h)
  refine ⟨s, ⟨fun b u q => ?_, fun a m q => ?_, fun a ps q => ?_⟩, fun a u q f m _ => ?_, tabs_new h o⟩
  · by_cases e : b = p
    · subst e; rw [upd_same] at q ⊢; exact q
    · rw [upd_ne e] at q ⊢; exact R.sub _ _ q
  · obtain ⟨f, u, e, r⟩ := R.mt a m q
    have ne : a ≠ p := ne_of_none e h
    exact ⟨by rw [upd_ne ne]; exact f, u, by rw [upd_ne ne]; exact e, r.mono s⟩
  · by_cases e : a = p
    · subst e; rw [upd_same] at q; exact hn ps (Option.some.inj q)
    · rw [upd_ne e] at q; exact R.nt a ps q
  · have ne : a ≠ p := ne_of_none q h
    rw [upd_ne ne, upd_ne ne]; exact ⟨q, f, m⟩
/-- a new object that may change -/
theorem RelR.newM (R : RelR K F M H) {p : Addr} (h : H p = none) {o : HO} {m : MO} (r : RepO K F o m) : StpR K T F M H F (mu M p m) (upd H p o) := by
  refine ⟨Same.refl F, ⟨fun b u q => ?_, fun a n q => ?_, R.nt⟩, fun a u q f n _ => ?_, tabs_new h o⟩
  · have e : b ≠ p := ne_of_none (R.sub _ _ q) h
    rw [upd_ne e]; exact R.sub _ _ q
  · by_cases e : a = p
    · subst e
      rw [mu_same] at q; cases q
      exact ⟨R.fnone h, o, upd_same, r⟩
    · rw [mu_ne e] at q
      obtain ⟨f, u, e2, r2⟩ := R.mt a n q
      exact ⟨f, u, by rw [upd_ne e]; exact e2, r2⟩
  · have ne : a ≠ p := ne_of_none q h
    rw [upd_ne ne, mu_ne ne]; exact ⟨q, f, n⟩
/-- a list that may change is changed -/
theorem RelR.set (R : RelR K F M H) {p : Addr} {ds0 ds : List D} (h : M p = some (.lst ds0)) {xs : List V} (r : RpAll K F xs ds) : StpR K T F M H F (mu M p (.lst ds)) (upd H p (.lst xs)) := by
  obtain ⟨f0, o0, e0, r0⟩ := R.mt p _ h
  have e1 : ∃ ys, o0 = .lst ys := by
    cases o0 with
    | lst ys => exact ⟨ys, rfl⟩
    | _ => exact r0.elim
  obtain ⟨ys, rfl⟩ := e1
  refine ⟨Same.refl F, ⟨fun b u q => ?_, fun a n q => ?_, R.nt⟩, fun a u q f n _ => ?_, tabs_lst e0⟩
  · have e : b ≠ p := ne_of_none q f0
    rw [upd_ne e]; exact R.sub _ _ q
  · by_cases e : a = p
    · subst e
      rw [mu_same] at q; cases q
      exact ⟨f0, _, upd_same, r⟩
    · rw [mu_ne e] at q
      obtain ⟨f, u, e2, r2⟩ := R.mt a n q
      exact ⟨f, u, by rw [upd_ne e]; exact e2, r2⟩
  · have ne : a ≠ p := fun e => by subst e; rw [h] at n; cases n
    rw [upd_ne ne, mu_ne ne]; exact ⟨q, f, n⟩
theorem code_ins {c : Addr} {q : Str} {C dx : Addr} {fs : List (Str × V)} : LamX.CodeO c q ≠ .ins C dx fs := fun h => by unfold LamX.CodeO at h; cases h
theorem tabs_ins {p C dx : Addr} {fs fs' : List (Str × V)} (h : H p = some (.ins C dx fs)) (t : LamX.Tabs T H) : LamX.Tabs T (upd H p (.ins C dx fs')) := fun z hz => by
  obtain ⟨ps, h1, h2, h3⟩ := t z hz
  refine ⟨ps, ?_, h2, fun pos cv hc => ?_⟩
  · rw [upd_ne (fun e => by rw [e, h] at h1; cases h1)]; exact h1
  · obtain ⟨c, e1, e2⟩ := h3 pos cv hc
    refine ⟨c, e1, ?_⟩
    rw [upd_ne (fun e => by rw [e, h] at e2; exact code_ins (Option.some.inj e2).symm)]; exact e2
theorem RelR.obj (R : RelR K F M H) {p : Addr} {x : Str} {ds : List (Str × D)} (h : M p = some (.obj x ds)) : ∃ C dx fs, H p = some (.ins C dx fs) ∧ PySem.W.nsIn K mainGlobals x = some (some (.ref C)) ∧ RpFs K F fs ds := by
  obtain ⟨_, o, e0, r0⟩ := R.mt p _ h
  cases o with
  | ins C dx fs => exact ⟨C, dx, fs, e0, r0.1, r0.2⟩
  | _ => exact r0.elim
/-- a field of an object is changed -/
theorem RelR.setO (R : RelR K F M H) {p C dx : Addr} {x : Str} {ds0 ds : List (Str × D)} {fs0 fs : List (Str × V)} (h : M p = some (.obj x ds0)) (e0 : H p = some (.ins C dx fs0)) (n : PySem.W.nsIn K mainGlobals x = some (some (.ref C))) (r : RpFs K F fs ds) :
    StpR K T F M H F (mu M p (.obj x ds)) (upd H p (.ins C dx fs)) := by
  obtain ⟨f0, _, _, _⟩ := R.mt p _ h
  refine ⟨Same.refl F, ⟨fun b u q => ?_, fun a m q => ?_, R.nt⟩, fun a u q f m _ => ?_, tabs_ins e0⟩
  · have e : b ≠ p := ne_of_none q f0
    rw [upd_ne e]; exact R.sub _ _ q
  · by_cases e : a = p
    · subst e
      rw [mu_same] at q; cases q
      exact ⟨f0, _, upd_same, n, r⟩
    · rw [mu_ne e] at q
      obtain ⟨f, u, e2, r2⟩ := R.mt a m q
      exact ⟨f, u, by rw [upd_ne e]; exact e2, r2⟩
  · have ne : a ≠ p := fun e => by subst e; rw [h] at m; cases m
    rw [upd_ne ne, mu_ne ne]; exact ⟨q, f, m⟩
/-- an object that may change is held fast from here on -/
theorem RelR.hold (R : RelR K F M H) {p : Addr} {ds : List D} (h : M p = some (.lst ds)) : ∃ F', StpR K T F M H F' (md M p) H ∧ Rp K F' (.ref p) (.lst ds) := by
  obtain ⟨f0, o, e0, r0⟩ := R.mt p _ h
  cases o with
  | lst xs =>
    have s : Same F (upd F p (.lst xs)) := same_new f0
    refine ⟨upd F p (.lst xs), ⟨s, ⟨fun b u q => ?_, fun a m q => ?_, fun a ps q => ?_⟩, fun a u q f n _ => ?_, id⟩, .lst upd_same (RpAll.mono s r0)⟩
    · by_cases e : b = p
      · subst e; rw [upd_same] at q; rw [e0, ← q]
      · rw [upd_ne e] at q; exact R.sub _ _ q
    · unfold md at q
      by_cases e : a = p
      · rw [if_pos e] at q; cases q
      · rw [if_neg e] at q
        obtain ⟨f, u, e2, r2⟩ := R.mt a m q
        exact ⟨by rw [upd_ne e]; exact f, u, e2, r2.mono s⟩
    · by_cases e : a = p
      · subst e; rw [upd_same] at q; cases q
      · rw [upd_ne e] at q; exact R.nt a ps q
    · have ne : a ≠ p := fun e => by subst e; rw [h] at n; cases n
      unfold md
      rw [upd_ne ne, if_neg ne]; exact ⟨q, f, n⟩
  | _ => exact r0.elim
theorem RelR.lst (R : RelR K F M H) {p : Addr} {ds : List D} (h : M p = some (.lst ds)) : ∃ xs, H p = some (.lst xs) ∧ RpAll K F xs ds := by
  obtain ⟨_, o, e0, r0⟩ := R.mt p _ h
  cases o with
  | lst xs => exact ⟨xs, e0, r0⟩
  | _ => exact r0.elim
end
/-- what is kept in sight beside: the tables, and any J that lasts through steps -/
structure KJ (K : PySem.W.Frag) where
  T : TT8
  J : Hp → Mp → Hp → Prop
  cl : ∀ {F : Hp} {M : Mp} {H F' : Hp} {M' : Mp} {H' : Hp}, J F M H → StpR K T F M H F' M' H' → J F' M' H'
structure Rel {K : PySem.W.Frag} (Y : KJ K) (F : Hp) (M : Mp) (H : Hp) : Prop where
  r : RelR K F M H
  j : Y.J F M H
theorem Rel.sub {K : PySem.W.Frag} {Y : KJ K} {F : Hp} {M : Mp} {H : Hp} (R : Rel Y F M H) : Same F H := R.r.sub
theorem Rel.mt {K : PySem.W.Frag} {Y : KJ K} {F : Hp} {M : Mp} {H : Hp} (R : Rel Y F M H) : ∀ a m, M a = some m → F a = none ∧ ∃ o, H a = some o ∧ RepO K F o m := R.r.mt
structure Stp {K : PySem.W.Frag} (Y : KJ K) (F : Hp) (M : Mp) (H : Hp) (F' : Hp) (M' : Mp) (H' : Hp) : Prop where
  s : StpR K Y.T F M H F' M' H'
  rel : Rel Y F' M' H'
theorem Stp.same {K : PySem.W.Frag} {Y : KJ K} {F F' : Hp} {M M' : Mp} {H H' : Hp} (s : Stp Y F M H F' M' H') : Same F F' := s.s.same
theorem Stp.fr {K : PySem.W.Frag} {Y : KJ K} {F F' : Hp} {M M' : Mp} {H H' : Hp} (s : Stp Y F M H F' M' H') : ∀ a o, H a = some o → F a = none → M a = none → (∀ ps, o ≠ .tbl ps) → H' a = some o ∧ F' a = none ∧ M' a = none := s.s.fr
theorem Stp.of {K : PySem.W.Frag} {Y : KJ K} {F F' : Hp} {M M' : Mp} {H H' : Hp} (R : Rel Y F M H) (s : StpR K Y.T F M H F' M' H') : Stp Y F M H F' M' H' := ⟨s, s.rel, Y.cl R.j s⟩
theorem Stp.refl {K : PySem.W.Frag} {Y : KJ K} {F : Hp} {M : Mp} {H : Hp} (R : Rel Y F M H) : Stp Y F M H F M H := ⟨StpR.refl R.r, R⟩
theorem Stp.trans {K : PySem.W.Frag} {Y : KJ K} {F F1 F2 : Hp} {M M1 M2 : Mp} {H H1 H2 : Hp} (a : Stp Y F M H F1 M1 H1) (b : Stp Y F1 M1 H1 F2 M2 H2) : Stp Y F M H F2 M2 H2 := ⟨a.s.trans b.s, b.rel⟩
section
variable {K : PySem.W.Frag} {Y : KJ K} {F : Hp} {M : Mp} {H : Hp}
theorem Rel.fnone (R : Rel Y F M H) {p : Addr} (h : H p = none) : F p = none := R.r.fnone h
theorem Rel.mnone (R : Rel Y F M H) {p : Addr} (h : H p = none) : M p = none := R.r.mnone h
theorem Rel.newF (R : Rel Y F M H) {p : Addr} (h : H p = none) (o : HO) (hn : ∀ ps, o ≠ .tbl ps := by intro ps z; cases z) : Stp Y F M H (upd F p o) M (upd H p o) := Stp.of R (R.r.newF h o hn)
theorem Rel.newM (R : Rel Y F M H) {p : Addr} (h : H p = none) {o : HO} {m : MO} (r : RepO K F o m) : Stp Y F M H F (mu M p m) (upd H p o) := Stp.of R (R.r.newM h r)
theorem Rel.set (R : Rel Y F M H) {p : Addr} {ds0 ds : List D} (h : M p = some (.lst ds0)) {xs : List V} (r : RpAll K F xs ds) : Stp Y F M H F (mu M p (.lst ds)) (upd H p (.lst xs)) := Stp.of R (R.r.set h r)
theorem Rel.hold (R : Rel Y F M H) {p : Addr} {ds : List D} (h : M p = some (.lst ds)) : ∃ F', Stp Y F M H F' (md M p) H ∧ Rp K F' (.ref p) (.lst ds) := let ⟨F', s, r⟩ := R.r.hold h; ⟨F', Stp.of R s, r⟩
theorem Rel.obj (R : Rel Y F M H) {p : Addr} {x : Str} {ds : List (Str × D)} (h : M p = some (.obj x ds)) : ∃ C dx fs, H p = some (.ins C dx fs) ∧ PySem.W.nsIn K mainGlobals x = some (some (.ref C)) ∧ RpFs K F fs ds := R.r.obj h
theorem Rel.setO (R : Rel Y F M H) {p C dx : Addr} {x : Str} {ds0 ds : List (Str × D)} {fs0 fs : List (Str × V)} (h : M p = some (.obj x ds0)) (e0 : H p = some (.ins C dx fs0)) (n : PySem.W.nsIn K mainGlobals x = some (some (.ref C))) (r : RpFs K F fs ds) :
    Stp Y F M H F (mu M p (.obj x ds)) (upd H p (.ins C dx fs)) := Stp.of R (R.r.setO h e0 n r)
theorem Rel.lst (R : Rel Y F M H) {p : Addr} {ds : List D} (h : M p = some (.lst ds)) : ∃ xs, H p = some (.lst xs) ∧ RpAll K F xs ds := R.r.lst h
end

/-! ### the slots -/
abbrev Rho := List (Option D)
def RelS (K : PySem.W.Frag) (F : Hp) (σ : St) (ρ : Rho) : Prop := σ.length = ρ.length ∧ ∀ (i : Nat) (d : D), ρ[i]? = some (some d) → ∃ v, σ[i]? = some (some v) ∧ Rp K F v d
section
variable {K : PySem.W.Frag} {F F' : Hp} {σ : St} {ρ : Rho}
theorem RelS.mono (h : RelS K F σ ρ) (e : Same F F') : RelS K F' σ ρ := ⟨h.1, fun i d q => let ⟨v, a, b⟩ := h.2 i d q; ⟨v, a, b.mono e⟩⟩
theorem RelS.set (h : RelS K F σ ρ) {v : V} {d : D} (r : Rp K F v d) (i : Nat) : RelS K F (σ.set i (some v)) (ρ.set i (some d)) := by
  refine ⟨by rw [List.length_set, List.length_set]; exact h.1, fun j e q => ?_⟩
  by_cases ij : i = j
  · subst ij
    have hl : i < ρ.length := by
      have := List.getElem?_eq_some_iff.mp q
      obtain ⟨a, _⟩ := this
      simpa using a
    rw [List.getElem?_set_self hl] at q
    cases q
    exact ⟨v, by rw [List.getElem?_set_self (by rw [h.1]; exact hl)], r⟩
  · rw [List.getElem?_set_ne ij] at q ⊢
    exact h.2 j e q
def dwipe (ρ : Rho) : List Nat → Rho
  | [] => ρ
  | v :: vs => (dwipe ρ vs).set v none
theorem RelS.wipe (h : RelS K F σ ρ) : ∀ vs : List Nat, RelS K F (L2.wipe σ vs) (dwipe ρ vs)
  | [] => h
  | v :: vs => by
    have ih := RelS.wipe h vs
    unfold L2.wipe dwipe
    refine ⟨by rw [List.length_set, List.length_set]; exact ih.1, fun j e q => ?_⟩
    by_cases ij : v = j
    · subst ij
      by_cases hl : v < (dwipe ρ vs).length
      · rw [List.getElem?_set_self hl] at q; cases q
      · rw [List.getElem?_eq_none (by simpa using hl)] at q; cases q
    · rw [List.getElem?_set_ne ij] at q ⊢
      exact ih.2 j e q
end

/-! ### the judgements -/
abbrev DK := D → Mp → Prop
abbrev DTE := Rho → Mp → DK → Prop
abbrev DTT := Rho → Mp → (Bool → Mp → Prop) → Prop
abbrev DTA := Rho → Mp → (List D → Mp → Prop) → Prop
structure DEnds where
  nx : Rho → Mp → Prop
  rt : DK
  bk : Rho → Mp → Prop := fun _ _ => False
  ct : Rho → Mp → Prop := fun _ _ => False
abbrev DTS := DEnds → Rho → Mp → Prop

def canE {K : PySem.W.Frag} (Y : KJ K) (t : DTE) : TE := fun σ H Q0 => ∃ F M ρ Q, RelS K F σ ρ ∧ Rel Y F M H ∧ t ρ M Q ∧
  ∀ v d F' M' H', Stp Y F M H F' M' H' → Rp K F' v d → Q d M' → Q0 v H'
def canT {K : PySem.W.Frag} (Y : KJ K) (t : DTT) : TT := fun σ H Q0 => ∃ F M ρ Q, RelS K F σ ρ ∧ Rel Y F M H ∧ t ρ M Q ∧
  ∀ b F' M' H', Stp Y F M H F' M' H' → Q b M' → Q0 b H'
def canA {K : PySem.W.Frag} (Y : KJ K) (t : DTA) : TA := fun σ H Q0 => ∃ F M ρ Q, RelS K F σ ρ ∧ Rel Y F M H ∧ t ρ M Q ∧
  ∀ vs ds F' M' H', Stp Y F M H F' M' H' → RpAll K F' vs ds → Q ds M' → Q0 vs H'
structure EndsOk {K : PySem.W.Frag} (Y : KJ K) (F : Hp) (M : Mp) (H : Hp) (D : DEnds) (D0 : Ends) : Prop where
  nx : ∀ σ' ρ' F' M' H', Stp Y F M H F' M' H' → RelS K F' σ' ρ' → D.nx ρ' M' → D0.nx σ' H'
  rt : ∀ v d F' M' H', Stp Y F M H F' M' H' → Rp K F' v d → D.rt d M' → D0.rt v H'
  bk : ∀ σ' ρ' F' M' H', Stp Y F M H F' M' H' → RelS K F' σ' ρ' → D.bk ρ' M' → D0.bk σ' H'
  ct : ∀ σ' ρ' F' M' H', Stp Y F M H F' M' H' → RelS K F' σ' ρ' → D.ct ρ' M' → D0.ct σ' H'
theorem EndsOk.mono {K : PySem.W.Frag} {Y : KJ K} {F F1 : Hp} {M M1 : Mp} {H H1 : Hp} {D : DEnds} {D0 : Ends} (e : EndsOk Y F M H D D0) (s : Stp Y F M H F1 M1 H1) : EndsOk Y F1 M1 H1 D D0 :=
  ⟨fun a b c d f h => e.nx a b c d f (s.trans h), fun a b c d f h => e.rt a b c d f (s.trans h), fun a b c d f h => e.bk a b c d f (s.trans h), fun a b c d f h => e.ct a b c d f (s.trans h)⟩
def canS {K : PySem.W.Frag} (Y : KJ K) (t : DTS) : TS := fun D0 σ H => ∃ F M ρ D, RelS K F σ ρ ∧ Rel Y F M H ∧ t D ρ M ∧ EndsOk Y F M H D D0

abbrev DE (X : Cx) (Y : KJ X.K) (e : Expr) (t : DTE) : Prop := PE X e (canE Y t)
abbrev DT (X : Cx) (Y : KJ X.K) (e : Expr) (t : DTT) : Prop := PT X e (canT Y t)
abbrev DW (X : Cx) (Y : KJ X.K) (e : Expr) (t : DTT) : Prop := PW X e (canT Y t)
abbrev DA (X : Cx) (Y : KJ X.K) (es : List Expr) (t : DTA) : Prop := PA X es (canA Y t)
abbrev DS (X : Cx) (Y : KJ X.K) (s : Stmt) (t : DTS) : Prop := PS X s (canS Y t)
abbrev DSs (X : Cx) (Y : KJ X.K) (ss : List Stmt) (t : DTS) : Prop := PSs X ss (canS Y t)

section
variable {X : Cx} {Y : KJ X.K}
theorem PE.weak {e : Expr} {t u : TE} (h : PE X e t) (w : ∀ σ H Q, u σ H Q → t σ H Q) : PE X e u := ⟨fun p s σ H Q I q => h.run p s σ H Q I (w σ H Q q)⟩
theorem PT.weak {e : Expr} {t u : TT} (h : PT X e t) (w : ∀ σ H Q, u σ H Q → t σ H Q) : PT X e u := ⟨fun p s σ H Q I q => h.run p s σ H Q I (w σ H Q q)⟩
theorem PW.weak {e : Expr} {t u : TT} (h : PW X e t) (w : ∀ σ H Q, u σ H Q → t σ H Q) : PW X e u := ⟨fun wh p s σ H Q I q => h.run wh p s σ H Q I (w σ H Q q)⟩
theorem PA.weak {es : List Expr} {t u : TA} (h : PA X es t) (w : ∀ σ H Q, u σ H Q → t σ H Q) : PA X es u := ⟨fun ps p s σ H Q I q => h.run ps p s σ H Q I (w σ H Q q)⟩
theorem PS.weak {e : Stmt} {t u : TS} (h : PS X e t) (w : ∀ D σ H, u D σ H → t D σ H) : PS X e u := ⟨fun p s σ H D I q => h.run p s σ H D I (w D σ H q)⟩
theorem PSs.weak {e : List Stmt} {t u : TS} (h : PSs X e t) (w : ∀ D σ H, u D σ H → t D σ H) : PSs X e u := ⟨fun p s σ H D I q => h.run p s σ H D I (w D σ H q)⟩
theorem PTs.weak {ifs : List Expr} {t u : TT} (h : PTs X ifs t) (w : ∀ σ H Q, u σ H Q → t σ H Q) : PTs X ifs u := ⟨fun p s σ H Q I q => h.run p s σ H Q I (w σ H Q q)⟩
end
/-- the introduction of a reading over data -/
theorem canE.mk {K : PySem.W.Frag} {Y : KJ K} {t : DTE} {σ : St} {H : Hp} {Q0 : VK} {F : Hp} {M : Mp} {ρ : Rho} {Q : DK} (s : RelS K F σ ρ) (r : Rel Y F M H) (h : t ρ M Q)
    (k : ∀ v d F' M' H', Stp Y F M H F' M' H' → Rp K F' v d → Q d M' → Q0 v H') : canE Y t σ H Q0 := ⟨F, M, ρ, Q, s, r, h, k⟩

/-! ### names, constants -/
def dSlot (i : Nat) : DTE := fun ρ M Q => ∃ d, ρ[i]? = some (some d) ∧ Q d M
def dC (d : D) : DTE := fun _ M Q => Q d M
section
variable {X : Cx} {Y : KJ X.K} {pos : Pos}
theorem de_v (i : Nat) {x : Str} (hN : X.N[i]? = some x := by rfl) (hv : Vis X.env.scope x := by first | exact Or.inl rfl | exact Or.inr (Or.inl rfl) | exact Or.inr (Or.inr rfl)) (hd : (x == ("__debug__" : Str)) = false := by decide)
    (hcd : (x == ("__classdict__" : Str)) = false := by decide) : DE X Y (.Name x pos) (dSlot i) := by
  refine PE.weak (pe_var hN hv hd hcd) ?_
  rintro σ H Q0 ⟨F, M, ρ, Q, rs, r, ⟨d, e, q⟩, k⟩
  obtain ⟨v, e1, rp⟩ := rs.2 i d e
  exact ⟨v, e1, k v d F M H (Stp.refl r) rp q⟩
theorem de_const {e : Expr} {v : V} {d : D} (h : PE X e (tC v)) (r : ∀ F, Rp X.K F v d) : DE X Y e (dC d) := by
  refine PE.weak h ?_
  rintro σ H Q0 ⟨F, M, ρ, Q, rs, rl, q, k⟩
  exact k v d F M H (Stp.refl rl) (r F) q
theorem de_int {i j} : DE X Y (.Constant (.int i) j pos) (dC (.int i)) := de_const pe_int fun _ => .int i
theorem de_bl {b j} : DE X Y (.Constant (.bool b) j pos) (dC (.bl b)) := de_const pe_bl fun _ => .bl b
theorem de_non {j} : DE X Y (.Constant .none j pos) (dC .non) := de_const pe_non fun _ => .non
theorem de_str {x j} : DE X Y (.Constant (.str x) j pos) (dC (.str x)) := de_const pe_str fun _ => .str x
/-- a name of the module whose value never changes -/
structure Glob (K : PySem.W.Frag) (mg : Str → Option Value) (x : Str) (d : D) : Prop where
  ex : ∃ v u, mg x = some u ∧ RelV v u ∧ ∀ F, Rp K F v d
theorem de_g {x : Str} {d : D} (G : Glob X.K X.mg x d) (hg : Gl X x := by rfl) (hd : (x == ("__debug__" : Str)) = false := by decide) : DE X Y (.Name x pos) (dC d) := by
  obtain ⟨v, u, m, rv, rp⟩ := G.ex
  exact de_const (pe_glob hg m rv hd) rp

/-! ### lists of arguments, displays -/
def dNil : DTA := fun _ M Q => Q [] M
def dCons (t : DTE) (u : DTA) : DTA := fun ρ M Q => t ρ M fun d M1 => u ρ M1 fun ds M2 => Q (d :: ds) M2
theorem da_nil : DA X Y [] dNil := by
  refine PA.weak pa_nil ?_
  rintro σ H Q0 ⟨F, M, ρ, Q, rs, r, q, k⟩
  exact k [] [] F M H (Stp.refl r) .nil q
theorem da_cons {e : Expr} {es : List Expr} {t : DTE} {u : DTA} (ha : DE X Y e t) (hr : DA X Y es u) (hs : starEach (e :: es) X.env = (false, eval e X.env) :: starEach es X.env := by rfl) : DA X Y (e :: es) (dCons t u) := by
  refine PA.weak (pa_cons ha hr hs) ?_
  rintro σ H Q0 ⟨F, M, ρ, Q, rs, r, q, k⟩
  refine ⟨F, M, ρ, _, rs, r, q, fun v d F1 M1 H1 s1 rp q1 => ?_⟩
  refine ⟨F1, M1, ρ, _, rs.mono s1.same, s1.rel, q1, fun vs ds F2 M2 H2 s2 rp2 q2 => ?_⟩
  exact k _ _ F2 M2 H2 (s1.trans s2) (.cons (rp.mono s2.same) rp2) q2
/-- a new list: held fast (fz), or to be changed -/
def newL (fz : Bool) (ds : List D) (M : Mp) (Q : DK) : Prop := if fz = true then Q (.lst ds) M else ∀ a, M a = none → Q (.ref a) (mu M a (.lst ds))
theorem newL_ok {K : PySem.W.Frag} {Y : KJ K} {F : Hp} {M : Mp} {H : Hp} {fz : Bool} {xs : List V} {ds : List D} {Q : DK} {Q0 : VK} (R : Rel Y F M H) (rp : RpAll K F xs ds) (h : newL fz ds M Q)
    (k : ∀ v d F' M' H', Stp Y F M H F' M' H' → Rp K F' v d → Q d M' → Q0 v H') (p : Addr) (hp : H p = none) : Q0 (.ref p) (upd H p (.lst xs)) := by
  cases fz with
  | true =>
    have s1 := R.newF hp (.lst xs)
    exact k _ (.lst ds) _ M _ s1 (.lst upd_same (rp.mono s1.same)) h
  | false =>
    exact k _ (.ref p) F _ _ (R.newM hp (m := .lst ds) rp) (.ref p) (h p (R.mnone hp))
def dTup (t : DTA) : DTE := fun ρ M Q => t ρ M fun ds M1 => ds.length ≤ sizeLine ∧ Q (.tup ds) M1
def dLst (fz : Bool) (t : DTA) : DTE := fun ρ M Q => t ρ M fun ds M1 => ds.length ≤ sizeLine ∧ newL fz ds M1 Q
theorem newT_ok {K : PySem.W.Frag} {Y : KJ K} {F : Hp} {M : Mp} {H : Hp} {xs : List V} {ds : List D} {Q : DK} {Q0 : VK} (R : Rel Y F M H) (rp : RpAll K F xs ds) (h : Q (.tup ds) M)
    (k : ∀ v d F' M' H', Stp Y F M H F' M' H' → Rp K F' v d → Q d M' → Q0 v H') (p : Addr) (hp : H p = none) : Q0 (.ref p) (upd H p (.tup xs)) := by
  have s1 := R.newF hp (.tup xs)
  exact k _ (.tup ds) _ M _ s1 (.tup (.inl (.inl upd_same)) (rp.mono s1.same)) h
theorem de_tup {es : List Expr} {x1} {t : DTA} (h : DA X Y es t) : DE X Y (.Tuple es x1 pos) (dTup t) := by
  refine PE.weak (pe_tup h) ?_
  rintro σ H Q0 ⟨F, M, ρ, Q, rs, r, q, k⟩
  refine ⟨F, M, ρ, _, rs, r, q, fun vs ds F1 M1 H1 s1 rp ⟨hl, q1⟩ => ⟨by rw [rp.length]; exact hl, fun p hp => ?_⟩⟩
  exact newT_ok s1.rel rp q1 (fun v d F' M' H' s => k v d F' M' H' (s1.trans s)) p hp
theorem de_lst (fz : Bool) {es : List Expr} {t : DTA} (h : DA X Y es t) : DE X Y (.List es pos) (dLst fz t) := by
  refine PE.weak (pe_lst h) ?_
  rintro σ H Q0 ⟨F, M, ρ, Q, rs, r, q, k⟩
  refine ⟨F, M, ρ, _, rs, r, q, fun vs ds F1 M1 H1 s1 rp ⟨hl, q1⟩ => ⟨by rw [rp.length]; exact hl, fun p hp => ?_⟩⟩
  exact newL_ok s1.rel rp q1 (fun v d F' M' H' s => k v d F' M' H' (s1.trans s)) p hp
/-- a list that was changed is held fast here -/
def dHold (t : DTE) : DTE := fun ρ M Q => t ρ M fun d M1 => ∃ a ds, d = .ref a ∧ M1 a = some (.lst ds) ∧ Q (.lst ds) (md M1 a)
theorem de_hold {e : Expr} {t : DTE} (h : DE X Y e t) : DE X Y e (dHold t) := by
  refine PE.weak h ?_
  rintro σ H Q0 ⟨F, M, ρ, Q, rs, r, q, k⟩
  refine ⟨F, M, ρ, _, rs, r, q, fun v d F1 M1 H1 s1 rp ⟨a, ds, e, hm, q1⟩ => ?_⟩
  subst e
  cases rp
  obtain ⟨F2, s2, rp2⟩ := s1.rel.hold hm
  exact k _ _ F2 _ H1 (s1.trans s2) rp2 q1
end
end DL

/-! DL2: tests, statements, targets, loops, comprehensions, defs and calls over data. -/
namespace DL
open PySem PySem.Spec L2
open PyProof.Rows hiding St

/-! ### tests -/
def dB (t : DTE) : DTT := fun ρ M Q => t ρ M fun d M1 => ∃ b, d = .bl b ∧ Q b M1
section
variable {X : Cx} {Y : KJ X.K} {pos : Pos}
theorem canT_of_B {K : PySem.W.Frag} {Y : KJ K} {t : DTE} {σ : St} {H : Hp} {Q : Bool → Hp → Prop} (h : canT Y (dB t) σ H Q) : tB (canE Y t) σ H Q := by
  obtain ⟨F, M, ρ, Q', rs, r, q, k⟩ := h
  refine ⟨F, M, ρ, _, rs, r, q, fun v d F1 M1 H1 s1 rp ⟨b, e, q1⟩ => ?_⟩
  subst e
  cases rp
  exact ⟨b, rfl, k b F1 M1 H1 s1 q1⟩
theorem dt_val {e : Expr} {t : DTE} (h : DE X Y e t) (he : ∀ whole, isTrue e X.env whole = (do let v ← whole; standAt e.pos; holding [v] (truthy v)) := by intro _; rfl) : DT X Y e (dB t) :=
  PT.weak (pt_val h he) fun _ _ _ q => canT_of_B q
def dNotT (t : DTT) : DTT := fun ρ M Q => t ρ M fun b M1 => Q (!b) M1
def dAndT (t u : DTT) : DTT := fun ρ M Q => t ρ M fun b M1 => if b = true then u ρ M1 Q else Q false M1
def dOrT (t u : DTT) : DTT := fun ρ M Q => t ρ M fun b M1 => if b = true then Q true M1 else u ρ M1 Q
theorem dt_not {a : Expr} {t : DTT} (h : DT X Y a t) : DT X Y (.UnaryOp .Not a pos) (dNotT t) := by
  refine PT.weak (pt_not h) ?_
  rintro σ H Q0 ⟨F, M, ρ, Q, rs, r, q, k⟩
  exact ⟨F, M, ρ, _, rs, r, q, fun b F1 M1 H1 s1 q1 => k _ F1 M1 H1 s1 q1⟩
theorem can_and {K : PySem.W.Frag} {Y : KJ K} {t u : DTT} {σ : St} {H : Hp} {Q : Bool → Hp → Prop} (h : canT Y (dAndT t u) σ H Q) : tAnd (canT Y t) (canT Y u) σ H Q := by
  obtain ⟨F, M, ρ, Q', rs, r, q, k⟩ := h
  refine ⟨F, M, ρ, _, rs, r, q, fun b F1 M1 H1 s1 q1 => ?_⟩
  cases b with
  | true => exact ⟨F1, M1, ρ, Q', rs.mono s1.same, s1.rel, q1, fun b F2 M2 H2 s2 => k b F2 M2 H2 (s1.trans s2)⟩
  | false => exact k _ F1 M1 H1 s1 q1
theorem can_or {K : PySem.W.Frag} {Y : KJ K} {t u : DTT} {σ : St} {H : Hp} {Q : Bool → Hp → Prop} (h : canT Y (dOrT t u) σ H Q) : tOr (canT Y t) (canT Y u) σ H Q := by
  obtain ⟨F, M, ρ, Q', rs, r, q, k⟩ := h
  refine ⟨F, M, ρ, _, rs, r, q, fun b F1 M1 H1 s1 q1 => ?_⟩
  cases b with
  | false => exact ⟨F1, M1, ρ, Q', rs.mono s1.same, s1.rel, q1, fun b F2 M2 H2 s2 => k b F2 M2 H2 (s1.trans s2)⟩
  | true => exact k _ F1 M1 H1 s1 q1
theorem dw_and1 {a : Expr} {t : DTT} (h : DT X Y a t) : DW X Y (.BoolOp .And [a] pos) t := pw_and1 h
theorem dw_or1 {a : Expr} {t : DTT} (h : DT X Y a t) : DW X Y (.BoolOp .Or [a] pos) t := pw_or1 h
theorem dw_and {a b : Expr} {rest : List Expr} {t u : DTT} (h : DT X Y a t) (h2 : DW X Y (.BoolOp .And (b :: rest) pos) u) : DW X Y (.BoolOp .And (a :: b :: rest) pos) (dAndT t u) :=
  PW.weak (pw_and h h2) fun _ _ _ q => can_and q
theorem dw_or {a b : Expr} {rest : List Expr} {t u : DTT} (h : DT X Y a t) (h2 : DW X Y (.BoolOp .Or (b :: rest) pos) u) : DW X Y (.BoolOp .Or (a :: b :: rest) pos) (dOrT t u) :=
  PW.weak (pw_or h h2) fun _ _ _ q => can_or q
theorem dt_w {e : Expr} {t : DTT} (h : DW X Y e t) : DT X Y e t := h.pt

/-! ### and, or, not as values; x if t else y -/
def dAndV (t u : DTE) : DTE := fun ρ M Q => t ρ M fun d M1 => ∃ b, d = .bl b ∧ if b = true then u ρ M1 Q else Q (.bl false) M1
def dOrV (t u : DTE) : DTE := fun ρ M Q => t ρ M fun d M1 => ∃ b, d = .bl b ∧ if b = true then Q (.bl true) M1 else u ρ M1 Q
def dNotV (t : DTE) : DTE := fun ρ M Q => t ρ M fun d M1 => ∃ b, d = .bl b ∧ Q (.bl (!b)) M1
def dIf (c : DTT) (t u : DTE) : DTE := fun ρ M Q => c ρ M fun b M1 => if b = true then t ρ M1 Q else u ρ M1 Q
theorem de_one {op} {a : Expr} {t : DTE} (h : DE X Y a t) : DE X Y (.BoolOp op [a] pos) t := pe_one h
theorem de_and {a b : Expr} {rest : List Expr} {t u : DTE} (h : DE X Y a t) (h2 : DE X Y (.BoolOp .And (b :: rest) pos) u) : DE X Y (.BoolOp .And (a :: b :: rest) pos) (dAndV t u) := by
  refine PE.weak (pe_and h h2) ?_
  rintro σ H Q0 ⟨F, M, ρ, Q, rs, r, q, k⟩
  refine ⟨F, M, ρ, _, rs, r, q, fun v d F1 M1 H1 s1 rp ⟨b, e, q1⟩ => ?_⟩
  subst e
  cases rp
  refine ⟨b, rfl, ?_⟩
  cases b with
  | true => exact ⟨F1, M1, ρ, Q, rs.mono s1.same, s1.rel, q1, fun v d F2 M2 H2 s2 => k v d F2 M2 H2 (s1.trans s2)⟩
  | false => exact k _ _ F1 M1 H1 s1 (.bl false) q1
theorem de_or {a b : Expr} {rest : List Expr} {t u : DTE} (h : DE X Y a t) (h2 : DE X Y (.BoolOp .Or (b :: rest) pos) u) : DE X Y (.BoolOp .Or (a :: b :: rest) pos) (dOrV t u) := by
  refine PE.weak (pe_or h h2) ?_
  rintro σ H Q0 ⟨F, M, ρ, Q, rs, r, q, k⟩
  refine ⟨F, M, ρ, _, rs, r, q, fun v d F1 M1 H1 s1 rp ⟨b, e, q1⟩ => ?_⟩
  subst e
  cases rp
  refine ⟨b, rfl, ?_⟩
  cases b with
  | false => exact ⟨F1, M1, ρ, Q, rs.mono s1.same, s1.rel, q1, fun v d F2 M2 H2 s2 => k v d F2 M2 H2 (s1.trans s2)⟩
  | true => exact k _ _ F1 M1 H1 s1 (.bl true) q1
theorem de_not {a : Expr} {t : DTE} (h : DE X Y a t) : DE X Y (.UnaryOp .Not a pos) (dNotV t) := by
  refine PE.weak (pe_not h) ?_
  rintro σ H Q0 ⟨F, M, ρ, Q, rs, r, q, k⟩
  refine ⟨F, M, ρ, _, rs, r, q, fun v d F1 M1 H1 s1 rp ⟨b, e, q1⟩ => ?_⟩
  subst e
  cases rp
  exact ⟨b, rfl, k _ _ F1 M1 H1 s1 (.bl _) q1⟩
theorem de_if {c a b : Expr} {tc : DTT} {t u : DTE} (hc : DT X Y c tc) (ha : DE X Y a t) (hb : DE X Y b u) : DE X Y (.IfExp c a b pos) (dIf tc t u) := by
  refine PE.weak (pe_ifExp hc ha hb) ?_
  rintro σ H Q0 ⟨F, M, ρ, Q, rs, r, q, k⟩
  refine ⟨F, M, ρ, _, rs, r, q, fun b F1 M1 H1 s1 q1 => ?_⟩
  cases b with
  | true => exact ⟨F1, M1, ρ, Q, rs.mono s1.same, s1.rel, q1, fun v d F2 M2 H2 s2 => k v d F2 M2 H2 (s1.trans s2)⟩
  | false => exact ⟨F1, M1, ρ, Q, rs.mono s1.same, s1.rel, q1, fun v d F2 M2 H2 s2 => k v d F2 M2 H2 (s1.trans s2)⟩
end

/-! ### blocks and small statements -/
def dNext : DTS := fun D ρ M => D.nx ρ M
def dSeq (t u : DTS) : DTS := fun D ρ M => t { D with nx := u D } ρ M
def dBreak : DTS := fun D ρ M => D.bk ρ M
def dCont : DTS := fun D ρ M => D.ct ρ M
def dDrop (t : DTE) : DTS := fun D ρ M => t ρ M fun _ M1 => D.nx ρ M1
def dRet (t : DTE) : DTS := fun D ρ M => t ρ M D.rt
def dRetN : DTS := fun D _ M => D.rt .non M
def dIfS (c : DTT) (t u : DTS) : DTS := fun D ρ M => c ρ M fun b M1 => if b = true then t D ρ M1 else u D ρ M1
section
variable {X : Cx} {Y : KJ X.K} {pos : Pos}
theorem dss_nil : DSs X Y [] dNext := by
  refine PSs.weak pss_nil ?_
  rintro D0 σ H ⟨F, M, ρ, D, rs, r, q, k⟩
  exact k.nx σ ρ F M H (Stp.refl r) rs q
theorem dss_cons {st : Stmt} {rest : List Stmt} {t u : DTS} (h1 : DS X Y st t) (h2 : DSs X Y rest u) : DSs X Y (st :: rest) (dSeq t u) := by
  refine PSs.weak (pss_cons h1 h2) ?_
  rintro D0 σ H ⟨F, M, ρ, D, rs, r, q, k⟩
  refine ⟨F, M, ρ, _, rs, r, q, ⟨fun σ' ρ' F' M' H' s rs' q' => ?_, k.rt, k.bk, k.ct⟩⟩
  exact ⟨F', M', ρ', D, rs', s.rel, q', k.mono s⟩
theorem dss_one {st : Stmt} {t : DTS} (h1 : DS X Y st t) : DSs X Y [st] t := pss_one h1
theorem ds_pass : DS X Y (.Pass pos) dNext := by
  refine PS.weak ps_pass ?_
  rintro D0 σ H ⟨F, M, ρ, D, rs, r, q, k⟩
  exact k.nx σ ρ F M H (Stp.refl r) rs q
theorem ds_break : DS X Y (.Break pos) dBreak := by
  refine PS.weak ps_break ?_
  rintro D0 σ H ⟨F, M, ρ, D, rs, r, q, k⟩
  exact k.bk σ ρ F M H (Stp.refl r) rs q
theorem ds_continue : DS X Y (.Continue pos) dCont := by
  refine PS.weak ps_continue ?_
  rintro D0 σ H ⟨F, M, ρ, D, rs, r, q, k⟩
  exact k.ct σ ρ F M H (Stp.refl r) rs q
theorem ds_expr {e : Expr} {t : DTE} (he : DE X Y e t) (hs : swapsWith e none pos.line X.env = pure false := by rfl) : DS X Y (.Expr e pos) (dDrop t) := by
  refine PS.weak (ps_expr he hs) ?_
  rintro D0 σ H ⟨F, M, ρ, D, rs, r, q, k⟩
  exact ⟨F, M, ρ, _, rs, r, q, fun v d F1 M1 H1 s1 rp q1 => k.nx σ ρ F1 M1 H1 s1 (rs.mono s1.same) q1⟩
theorem ds_ret {e : Expr} {t : DTE} (he : DE X Y e t) : DS X Y (.Return (some e) pos) (dRet t) := by
  refine PS.weak (ps_ret he) ?_
  rintro D0 σ H ⟨F, M, ρ, D, rs, r, q, k⟩
  exact ⟨F, M, ρ, _, rs, r, q, fun v d F1 M1 H1 s1 rp q1 => k.rt v d F1 M1 H1 s1 rp q1⟩
theorem ds_retN : DS X Y (.Return none pos) dRetN := by
  refine PS.weak ps_retN ?_
  rintro D0 σ H ⟨F, M, ρ, D, rs, r, q, k⟩
  exact k.rt .non .non F M H (Stp.refl r) .non q
theorem ds_if {c : Expr} {a b : List Stmt} {tc : DTT} {t u : DTS} (hc : DT X Y c tc) (ha : DSs X Y a t) (hb : DSs X Y b u) : DS X Y (.If c a b pos) (dIfS tc t u) := by
  refine PS.weak (ps_if hc ha hb) ?_
  rintro D0 σ H ⟨F, M, ρ, D, rs, r, q, k⟩
  refine ⟨F, M, ρ, _, rs, r, q, fun b F1 M1 H1 s1 q1 => ?_⟩
  cases b with
  | true => exact ⟨F1, M1, ρ, D, rs.mono s1.same, s1.rel, q1, k.mono s1⟩
  | false => exact ⟨F1, M1, ρ, D, rs.mono s1.same, s1.rel, q1, k.mono s1⟩
end

/-! ### targets -/
abbrev DTG := D → Rho → Mp → (Rho → Mp → Prop) → Prop
abbrev DTGs := List D → Rho → Mp → (Rho → Mp → Prop) → Prop
/-- off the places ws the slots are as they were -/
def Off (ws : List Nat) (σ σ' : St) : Prop := σ'.length = σ.length ∧ ∀ j : Nat, j ∉ ws → σ'[j]? = σ[j]?
theorem Off.refl (ws : List Nat) (σ : St) : Off ws σ σ := ⟨rfl, fun _ _ => rfl⟩
theorem Off.trans {ws : List Nat} {σ σ1 σ2 : St} (a : Off ws σ σ1) (b : Off ws σ1 σ2) : Off ws σ σ2 := ⟨b.1.trans a.1, fun j h => (b.2 j h).trans (a.2 j h)⟩
theorem Off.more {ws ws' : List Nat} {σ σ' : St} (a : Off ws σ σ') (h : ∀ i ∈ ws, i ∈ ws') : Off ws' σ σ' := ⟨a.1, fun j q => a.2 j fun z => q (h j z)⟩
theorem Off.set (σ : St) (i : Nat) (v : Option V) : Off [i] σ (σ.set i v) := ⟨List.length_set, fun j h => List.getElem?_set_ne (fun e => h (by simp [e]))⟩
theorem wipe_get {σ : St} : ∀ {vs : List Nat} {j : Nat}, (L2.wipe σ vs)[j]? = if j ∈ vs ∧ j < σ.length then some none else σ[j]?
  | [], j => by simp [L2.wipe]
  | v :: vs, j => by
    unfold L2.wipe
    by_cases e : v = j
    · subst e
      by_cases h : v < σ.length
      · rw [List.getElem?_set_self (by rw [L2.wipe_length]; exact h)]; simp [h]
      · rw [List.getElem?_eq_none (by rw [List.length_set, L2.wipe_length]; omega)]; simp [h]
    · rw [List.getElem?_set_ne e, wipe_get (vs := vs)]
      have : (j ∈ v :: vs) ↔ j ∈ vs := by simp [List.mem_cons, Ne.symm e]
      simp only [this]
theorem Off.wipe {ws : List Nat} {σ σ' : St} (a : Off ws σ σ') : L2.wipe σ' ws = L2.wipe σ ws := by
  apply List.ext_getElem?
  intro j
  rw [wipe_get, wipe_get, a.1]
  by_cases h : j ∈ ws
  · by_cases hl : j < σ.length
    · simp [h, hl]
    · rw [if_neg (by simp [hl]), if_neg (by simp [hl]), List.getElem?_eq_none (by rw [a.1]; omega), List.getElem?_eq_none (by omega)]
  · rw [if_neg (by simp [h]), if_neg (by simp [h])]
    exact a.2 j h
theorem wipe_idem {σ : St} {ws : List Nat} : L2.wipe (L2.wipe σ ws) ws = L2.wipe σ ws := by
  apply List.ext_getElem?
  intro j
  rw [wipe_get, wipe_get, L2.wipe_length]
  by_cases h : j ∈ ws ∧ j < σ.length
  · rw [if_pos h, if_pos h]
  · rw [if_neg h, if_neg h]
def canG {K : PySem.W.Frag} (Y : KJ K) (g : DTG) (ws : List Nat) : TG := fun v σ H Q0 => ∃ F M ρ d Q, Rp K F v d ∧ RelS K F σ ρ ∧ Rel Y F M H ∧ g d ρ M Q ∧
  ∀ σ' ρ' F' M' H', Stp Y F M H F' M' H' → RelS K F' σ' ρ' → Off ws σ σ' → Q ρ' M' → Q0 σ' H'
def canGs {K : PySem.W.Frag} (Y : KJ K) (g : DTGs) (ws : List Nat) : TGs := fun vs σ H Q0 => ∃ F M ρ ds Q, RpAll K F vs ds ∧ RelS K F σ ρ ∧ Rel Y F M H ∧ g ds ρ M Q ∧
  ∀ σ' ρ' F' M' H', Stp Y F M H F' M' H' → RelS K F' σ' ρ' → Off ws σ σ' → Q ρ' M' → Q0 σ' H'
abbrev DG (X : Cx) (Y : KJ X.K) (e : Expr) (g : DTG) (ws : List Nat) : Prop := PG X e (canG Y g ws)
abbrev DGs (X : Cx) (Y : KJ X.K) (es : List Expr) (g : DTGs) (ws : List Nat) : Prop := PGs X es (canGs Y g ws)
section
variable {X : Cx} {Y : KJ X.K} {pos : Pos}
theorem PG.weak {e : Expr} {t u : TG} (h : PG X e t) (w : ∀ v σ H Q, u v σ H Q → t v σ H Q) : PG X e u := ⟨fun p s σ H v z Q I r q => h.run p s σ H v z Q I r (w v σ H Q q)⟩
theorem PGs.weak {es : List Expr} {t u : TGs} (h : PGs X es t) (w : ∀ v σ H Q, u v σ H Q → t v σ H Q) : PGs X es u := ⟨fun p s σ H v z Q I r q => h.run p s σ H v z Q I r (w v σ H Q q)⟩
def dgName (i : Nat) : DTG := fun d ρ M Q => Q (ρ.set i (some d)) M
theorem dg_name {i : Nat} {x : Str} (hN : X.N.Nodup) (hi : X.N[i]? = some x) (hx : Loc X.env.scope x) (hf : X.fn x = true ∨ X.env.scope.names.lookup x = some .local := by first | exact .inl rfl | exact .inr rfl | assumption) : DG X Y (.Name x pos) (dgName i) [i] := by
  refine PG.weak (pg_name hN hi hx hf) ?_
  rintro v σ H Q0 ⟨F, M, ρ, d, Q, rp, rs, r, q, k⟩
  exact k _ _ F M H (Stp.refl r) (rs.set rp i) (Off.set σ i _) q
def dgNil : DTGs := fun ds ρ M Q => ds = [] ∧ Q ρ M
def dgCons (t : DTG) (u : DTGs) : DTGs := fun ds ρ M Q => ∃ d r, ds = d :: r ∧ t d ρ M fun ρ1 M1 => u r ρ1 M1 Q
theorem dgs_nil : DGs X Y [] dgNil [] := by
  refine PGs.weak pgs_nil ?_
  rintro vs σ H Q0 ⟨F, M, ρ, ds, Q, rp, rs, r, ⟨e, q⟩, k⟩
  subst e
  cases rp
  exact ⟨rfl, k _ _ F M H (Stp.refl r) rs (Off.refl _ _) q⟩
theorem dgs_cons {e : Expr} {es : List Expr} {t : DTG} {u : DTGs} {w1 w2 : List Nat} (h1 : DG X Y e t w1) (h2 : DGs X Y es u w2)
    (hs : (assignEach (e :: es) X.env).map (·.2) = assign e X.env :: (assignEach es X.env).map (·.2) := by rfl) : DGs X Y (e :: es) (dgCons t u) (w1 ++ w2) := by
  refine PGs.weak (pgs_cons h1 h2 hs) ?_
  rintro vs σ H Q0 ⟨F, M, ρ, ds, Q, rp, rs, r, ⟨d, rr, e, q⟩, k⟩
  subst e
  cases rp with
  | cons rh rt =>
    refine ⟨_, _, rfl, F, M, ρ, d, _, rh, rs, r, q, fun σ1 ρ1 F1 M1 H1 s1 rs1 o1 q1 => ?_⟩
    exact ⟨F1, M1, ρ1, rr, Q, rt.mono s1.same, rs1, s1.rel, q1, fun σ2 ρ2 F2 M2 H2 s2 rs2 o2 => k σ2 ρ2 F2 M2 H2 (s1.trans s2) rs2 ((o1.more fun i h => List.mem_append_left _ h).trans (o2.more fun i h => List.mem_append_right _ h))⟩
def dgTup (n : Nat) (t : DTGs) : DTG := fun d ρ M Q => ∃ ds, d = .tup ds ∧ ds.length = n ∧ t ds ρ M Q
theorem dg_tup {es : List Expr} {k : Nat} {t : DTGs} {n : Nat} {ws : List Nat} (hc : X.calm = true) (h : DGs X Y es t ws)
    (hn : (assignEach es X.env).length = n := by rfl) (hst : (assignEach es X.env).findIdx? (·.1) = none := by rfl) : DG X Y (.Tuple es k pos) (dgTup n t) ws := by
  refine PG.weak (pg_tup hc h hn hst) ?_
  rintro v σ H Q0 ⟨F, M, ρ, d, Q, rp, rs, r, ⟨ds, e, hl, q⟩, k⟩
  subst e
  cases rp with
  | tup sq ra =>
    have sq' := Same.tseq r.sub sq
    exact ⟨_, _, rfl, sq', by rw [ra.length]; exact hl, F, M, ρ, ds, Q, ra, rs, r, q, k⟩
/-- o[i] = v -/
abbrev DTSet := D → D → D → Mp → (Mp → Prop) → Prop
def canSet {K : PySem.W.Frag} (Y : KJ K) (t : DTSet) : TSet := fun o i v H Q0 => ∃ F M od id vd Q, Rp K F o od ∧ Rp K F i id ∧ Rp K F v vd ∧ Rel Y F M H ∧ t od id vd M Q ∧
  ∀ F' M' H', Stp Y F M H F' M' H' → Q M' → Q0 H'
theorem PSet.weak {t u : TSet} (h : PSet X t) (w : ∀ o i v H Q, u o i v H Q → t o i v H Q) : PSet X u := fun p s σ H o i v ov iv z Q I r1 r2 r3 q => h p s σ H o i v ov iv z Q I r1 r2 r3 (w o i v H Q q)
def dgSub (to ti : DTE) (t : DTSet) : DTG := fun d ρ M Q => to ρ M fun o M1 => ti ρ M1 fun i M2 => t o i d M2 fun M3 => Q ρ M3
theorem dg_sub {o i : Expr} {to ti : DTE} {t : DTSet} (ho : DE X Y o to) (hi : DE X Y i ti) (hs : PSet X (canSet Y t))
    (ha : ∀ v, assign (.Subscript o i pos) X.env v = (do
      let ov ← holding [v] (eval o X.env)
      let iv ← holding [v, ov] (eval i X.env)
      standAt pos
      holding [v, ov, iv] (setItem ov iv v)
      release [v, ov, iv] []) := by intro _; rfl) : DG X Y (.Subscript o i pos) (dgSub to ti t) [] := by
  refine PG.weak (pg_sub ho hi hs ha) ?_
  rintro v σ H Q0 ⟨F, M, ρ, d, Q, rp, rs, r, q, k⟩
  refine ⟨F, M, ρ, _, rs, r, q, fun ov od F1 M1 H1 s1 rp1 q1 => ?_⟩
  refine ⟨F1, M1, ρ, _, rs.mono s1.same, s1.rel, q1, fun iv id F2 M2 H2 s2 rp2 q2 => ?_⟩
  have s12 := s1.trans s2
  exact ⟨F2, M2, od, id, d, _, rp1.mono s2.same, rp2, rp.mono s12.same, s2.rel, q2, fun F3 M3 H3 s3 q3 => k σ ρ F3 M3 H3 (s12.trans s3) (rs.mono (s12.trans s3).same) (Off.refl _ _) q3⟩
def dAsg (t : DTE) (g : DTG) : DTS := fun D ρ M => t ρ M fun d M1 => g d ρ M1 D.nx
theorem can_asg {K : PySem.W.Frag} {Y : KJ K} {t : DTE} {g : DTG} {ws : List Nat} {D0 : Ends} {σ : St} {H : Hp} (h : canS Y (dAsg t g) D0 σ H) : tAsg (canE Y t) (canG Y g ws) D0 σ H := by
  obtain ⟨F, M, ρ, D, rs, r, q, k⟩ := h
  refine ⟨F, M, ρ, _, rs, r, q, fun v d F1 M1 H1 s1 rp q1 => ?_⟩
  exact ⟨F1, M1, ρ, d, D.nx, rp, rs.mono s1.same, s1.rel, q1, fun σ2 ρ2 F2 M2 H2 s2 rs2 _ q2 => k.nx σ2 ρ2 F2 M2 H2 (s1.trans s2) rs2 q2⟩
theorem ds_asg {tg e : Expr} {t : DTE} {g : DTG} {ws : List Nat} (he : DE X Y e t) (hg : DG X Y tg g ws) (hs : swapsWithSole [tg] e pos.line X.env = pure false := by rfl) (hw : swappedStores [tg] e X.env = pure none := by rfl)
    (h1 : (assignEach [tg] X.env).map (·.2) = [assign tg X.env] := by rfl) : DS X Y (.Assign [tg] e pos) (dAsg t g) :=
  PS.weak (ps_asg he hg hs hw h1) fun _ _ _ q => can_asg q
theorem ds_set {i : Nat} {x : Str} {e : Expr} {t : DTE} {pos' : Pos} (hN : X.N.Nodup) (hi : X.N[i]? = some x) (hx : Loc X.env.scope x) (he : DE X Y e t) (hs : swapsWith e (some (.Name x pos')) pos.line X.env = pure false := by rfl) (hf : X.fn x = true ∨ X.env.scope.names.lookup x = some .local := by first | exact .inl rfl | exact .inr rfl | assumption) :
    DS X Y (.Assign [.Name x pos'] e pos) (dAsg t (dgName i)) := by
  refine PS.weak (ps_set hN hi hx he hs hf) ?_
  rintro D0 σ H ⟨F, M, ρ, D, rs, r, q, k⟩
  refine ⟨F, M, ρ, _, rs, r, q, fun v d F1 M1 H1 s1 rp q1 => ?_⟩
  exact k.nx _ _ F1 M1 H1 s1 ((rs.mono s1.same).set rp i) q1
def dPar (i j : Nat) (t : DTA) : DTS := fun D ρ M => t ρ M fun ds M1 => ∃ d e, ds = [d, e] ∧ D.nx ((ρ.set i (some d)).set j (some e)) M1
theorem ds_par {i j : Nat} {x y : Str} {a b : Expr} {t : DTA} {px py pt : Pos} {kt k2 pt2} (hc : X.calm = true) (hN : X.N.Nodup) (hi : X.N[i]? = some x) (hj : X.N[j]? = some y) (hij : i ≠ j)
    (hx : X.env.scope.names.lookup x = some .local) (hy : X.env.scope.names.lookup y = some .local) (ha : DA X Y [a, b] t)
    (hw : swappedStores [.Tuple [.Name x px, .Name y py] kt pt] (.Tuple [a, b] k2 pt2) X.env = pure (some [x, y]) := by rfl) : DS X Y (.Assign [.Tuple [.Name x px, .Name y py] kt pt] (.Tuple [a, b] k2 pt2) pos) (dPar i j t) := by
  refine PS.weak (ps_par hc hN hi hj hij hx hy ha hw) ?_
  rintro D0 σ H ⟨F, M, ρ, D, rs, r, q, k⟩
  refine ⟨F, M, ρ, _, rs, r, q, fun vs ds F1 M1 H1 s1 rp ⟨d, e, he, q1⟩ => ?_⟩
  subst he
  cases rp with
  | cons r1 rt =>
    cases rt with
    | cons r2 rt2 =>
      cases rt2
      exact ⟨_, _, rfl, k.nx _ _ F1 M1 H1 s1 (((rs.mono s1.same).set r1 i).set r2 j) q1⟩
end

/-! ### while -/
def dWhile (c : DTT) (tb : DTS) : DTS := fun D ρ M => ∃ W : Nat → Rho → Mp → Prop, (∃ m, W m ρ M) ∧ ∀ m ρ M, W m ρ M →
  c ρ M fun b M1 => if b = true then ∃ N : Rho → Mp → Prop, (∀ ρ' M', N ρ' M' → ∃ m', m' < m ∧ W m' ρ' M') ∧ tb { D with nx := N, ct := N, bk := D.nx } ρ M1 else D.nx ρ M1
section
variable {X : Cx} {Y : KJ X.K} {pos : Pos}
theorem ds_while {c : Expr} {body : List Stmt} {tc : DTT} {tb : DTS} (hp : PassesOwn (model X.prog X.w) X.A X.env X.xe) (hc : DT X Y c tc) (hb : DSs X Y body tb) : DS X Y (.While c body [] pos) (dWhile tc tb) := by
  refine PS.weak (ps_while hp hc hb) ?_
  rintro D0 σ H ⟨F, M, ρ, D, rs, r, ⟨W, ⟨m0, w0⟩, turn⟩, k⟩
  refine ⟨fun m σ' H' => ∃ F1 M1 ρ1, Stp Y F M H F1 M1 H' ∧ RelS X.K F1 σ' ρ1 ∧ W m ρ1 M1, ⟨m0, F, M, ρ, Stp.refl r, rs, w0⟩, ?_⟩
  rintro m σ1 H1 ⟨F1, M1, ρ1, s1, rs1, w1⟩
  refine ⟨F1, M1, ρ1, _, rs1, s1.rel, turn m ρ1 M1 w1, fun b F2 M2 H2 s2 q2 => ?_⟩
  have s12 := s1.trans s2
  cases b with
  | false => exact k.nx σ1 ρ1 F2 M2 H2 s12 (rs1.mono s2.same) q2
  | true =>
    obtain ⟨N, hN, q2⟩ := q2
    refine iteT ?_
    refine ⟨fun σ' H' => ∃ m', m' < m ∧ ∃ F1 M1 ρ1, Stp Y F M H F1 M1 H' ∧ RelS X.K F1 σ' ρ1 ∧ W m' ρ1 M1, fun σ' H' h => h, ?_⟩
    refine ⟨F2, M2, ρ1, _, rs1.mono s2.same, s2.rel, q2, ⟨fun σ' ρ' F' M' H' s rs' n => ?_, fun v d F' M' H' s => k.rt v d F' M' H' (s12.trans s), fun σ' ρ' F' M' H' s => k.nx σ' ρ' F' M' H' (s12.trans s), fun σ' ρ' F' M' H' s rs' n => ?_⟩⟩
    all_goals
      obtain ⟨m', hm, w'⟩ := hN ρ' M' n
      exact ⟨m', hm, F', M', ρ', s12.trans s, rs', w'⟩
end

/-! ### what is walked -/
structure JW {K : PySem.W.Frag} (Y : KJ K) (F : Hp) (J : It) (items : List D) (G : Mp → Prop) : Prop where
  run : ∀ F1 M1 H1, Same F F1 → Rel Y F1 M1 H1 → G M1 → J.stop items.length H1 ∧ ∀ (i : Nat) (d : D), items[i]? = some d → J.go i H1 ∧ ∀ x H2, J.yld i H1 x H2 → ∃ F2, Stp Y F1 M1 H1 F2 M1 H2 ∧ Rp K F2 x d
abbrev DTI := Rho → Mp → (List D → (Mp → Prop) → Mp → Prop) → Prop
def canI {K : PySem.W.Frag} (Y : KJ K) (wi : DTI) : TI := fun σ H R0 => ∃ F M ρ R, RelS K F σ ρ ∧ Rel Y F M H ∧ wi ρ M R ∧
  ∀ J items G F' M' H', Stp Y F M H F' M' H' → JW Y F' J items G → R items G M' → R0 J H'
abbrev DI (X : Cx) (Y : KJ X.K) (tg iter : Expr) (wi : DTI) : Prop := PI X tg iter (canI Y wi)
section
variable {X : Cx} {Y : KJ X.K} {pos : Pos}
theorem PI.weak {tg e : Expr} {t u : TI} (h : PI X tg e t) (w : ∀ σ H R, u σ H R → t σ H R) : PI X tg e u := ⟨fun p s σ H R I q => h.run p s σ H R I (w σ H R q)⟩
/-- a for over the items -/
def forW (g : DTG) (tb : DTS) (D : DEnds) (G : Mp → Prop) : List DL.D → Rho → Mp → Prop
  | [], ρ, M => G M ∧ D.nx ρ M
  | x :: xs, ρ, M => G M ∧ g x ρ M fun ρ2 M2 => tb { D with nx := forW g tb D G xs, ct := forW g tb D G xs, bk := D.nx } ρ2 M2
def dFor (wi : DTI) (g : DTG) (tb : DTS) : DTS := fun D ρ M => wi ρ M fun items G M1 => forW g tb D G items ρ M1
theorem ds_for {tg iter : Expr} {body : List Stmt} {wi : DTI} {g : DTG} {ws : List Nat} {tb : DTS} (hp : PassesOwn (model X.prog X.w) X.A X.env X.xe) (hc : X.calm = true) (hi : DI X Y tg iter wi) (hg : DG X Y tg g ws) (hb : DSs X Y body tb)
    (hs : ∀ x, foldedSetIterable iter X.env x = pure x := by intro _; rfl) : DS X Y (.For tg iter body [] pos) (dFor wi g tb) := by
  refine PS.weak (ps_for hp hc hi hg hb hs) ?_
  rintro D0 σ H ⟨F, M, ρ, D, rs, r, q, k⟩
  refine ⟨F, M, ρ, _, rs, r, q, fun J items G F1 M1 H1 s1 jw q1 => ?_⟩
  refine ⟨fun i m σ' H' => m = items.length - i ∧ i ≤ items.length ∧ ∃ F2 M2 ρ2, Stp Y F1 M1 H1 F2 M2 H' ∧ RelS X.K F2 σ' ρ2 ∧ forW g tb D G (items.drop i) ρ2 M2,
    ⟨items.length, by simp, Nat.zero_le _, F1, M1, ρ, Stp.refl s1.rel, rs.mono s1.same, q1⟩, ?_⟩
  rintro i m σ' H' ⟨rfl, hi, F2, M2, ρ2, s2, rs2, q2⟩
  by_cases hlt : i < items.length
  · rw [List.drop_eq_getElem_cons hlt] at q2
    obtain ⟨g2, q2⟩ := q2
    have jj := (jw.run F2 M2 H' s2.same s2.rel g2).2 i items[i] (List.getElem?_eq_getElem hlt)
    refine .inr ⟨jj.1, fun σ3 H3 => ∃ m', m' < items.length - i ∧ (m' = items.length - (i + 1) ∧ i + 1 ≤ items.length ∧ ∃ F2 M2 ρ2, Stp Y F1 M1 H1 F2 M2 H3 ∧ RelS X.K F2 σ3 ρ2 ∧ forW g tb D G (items.drop (i + 1)) ρ2 M2), fun σ3 H3 h => h, fun x H3 y => ?_⟩
    obtain ⟨F3, s3, rp⟩ := jj.2 x H3 y
    have s23 := s2.trans s3
    refine ⟨F3, M2, ρ2, items[i], _, rp, rs2.mono s3.same, s3.rel, q2, fun σ4 ρ4 F4 M4 H4 s4 rs4 _ q4 => ?_⟩
    have s24 := s23.trans s4
    refine ⟨F4, M4, ρ4, _, rs4, s4.rel, q4, ⟨fun σ5 ρ5 F5 M5 H5 s5 rs5 n => ?_, fun v d F' M' H' s => k.rt v d F' M' H' ((s1.trans s24).trans s), fun a b F' M' H' s => k.nx a b F' M' H' ((s1.trans s24).trans s), fun σ5 ρ5 F5 M5 H5 s5 rs5 n => ?_⟩⟩
    all_goals exact ⟨items.length - (i + 1), by omega, rfl, hlt, F5, M5, ρ5, s24.trans s5, rs5, n⟩
  · have e : i = items.length := by omega
    subst e
    rw [List.drop_length] at q2
    obtain ⟨g2, q2⟩ := q2
    exact .inl ⟨(jw.run F2 M2 H' s2.same s2.rel g2).1, k.nx σ' ρ2 F2 M2 H' (s1.trans s2) rs2 q2⟩

/-! ### list comprehensions -/
def dYes : DTT := fun _ M Q => Q true M
abbrev DTs (X : Cx) (Y : KJ X.K) (ifs : List Expr) (t : DTT) : Prop := PTs X ifs (canT Y t)
theorem dts_nil : DTs X Y [] dYes := by
  refine PTs.weak pts_nil ?_
  rintro σ H Q0 ⟨F, M, ρ, Q, rs, r, q, k⟩
  exact k true F M H (Stp.refl r) q
theorem dts_one {c : Expr} {t : DTT} (h : DT X Y c t) : DTs X Y [c] t := pts_one h
def lcW (g : DTG) (tt : DTT) (te : DTE) (G : Mp → Prop) (ρ : Rho) (k : List DL.D → Mp → Prop) : List DL.D → List DL.D → Mp → Prop
  | [], acc, M => G M ∧ k acc M
  | x :: xs, acc, M => G M ∧ g x ρ M fun ρ2 M2 => tt ρ2 M2 fun b M3 => if b = true then te ρ2 M3 fun d M4 => acc.length < sizeLine ∧ lcW g tt te G ρ k xs (acc ++ [d]) M4 else lcW g tt te G ρ k xs acc M3
def dLc (fz : Bool) (wi : DTI) (g : DTG) (tt : DTT) (te : DTE) (vs : List Nat) : DTE := fun ρ M Q => wi ρ M fun items G M1 => lcW g tt te G (dwipe ρ vs) (fun ds M2 => newL fz ds M2 Q) items [] M1
theorem can_lc {K : PySem.W.Frag} {Y : KJ K} {fz : Bool} {wi : DTI} {g : DTG} {ws : List Nat} {tt : DTT} {te : DTE} {vs : List Nat} {σ : St} {H : Hp} {Q0 : VK} (hv : ∀ i ∈ ws, i ∈ vs) (h : canE Y (dLc fz wi g tt te vs) σ H Q0) :
    tLc (canI Y wi) (canG Y g ws) (canT Y tt) (canE Y te) vs σ H Q0 := by
  obtain ⟨F, M, ρ, Q, rs, r, q, k⟩ := h
  refine ⟨F, M, ρ, _, rs, r, q, fun J items G F1 M1 H1 s1 jw q1 => ?_⟩
  intro D hD
  have fD : F1 D = none := s1.rel.fnone hD
  have mD : M1 D = none := s1.rel.mnone hD
  -- the new list stands beside what is told
  let Pv : Nat → Hp → Prop := fun i H' => i ≤ items.length ∧ ∃ F2 M2 acc xs, Stp Y F1 M1 H1 F2 M2 H' ∧ F2 D = none ∧ M2 D = none ∧ H' D = some (.lst xs) ∧ RpAll K F2 xs acc ∧ lcW g tt te G (dwipe ρ vs) (fun ds M2 => newL fz ds M2 Q) (items.drop i) acc M2
  have s0 : Stp Y F1 M1 H1 F1 M1 (upd H1 D (.lst [])) := by
    refine Stp.of s1.rel ⟨Same.refl F1, ⟨fun b u z => ?_, fun a m z => ?_, s1.rel.r.nt⟩, fun a o h f m _ => ?_, tabs_new hD _⟩
    · rw [upd_ne (ne_of_none (s1.rel.sub _ _ z) hD)]; exact s1.rel.sub _ _ z
    · obtain ⟨f, o, e, rr⟩ := s1.rel.mt a m z
      exact ⟨f, o, by rw [upd_ne (ne_of_none e hD)]; exact e, rr⟩
    · rw [upd_ne (ne_of_none h hD)]; exact ⟨h, f, m⟩
  refine ⟨fun i m H' => m = items.length - i ∧ Pv i H', ⟨items.length, by simp, Nat.zero_le _, F1, M1, [], [], s0, fD, mD, upd_same, .nil, q1⟩, ?_⟩
  rintro i m H2 ⟨rfl, hi, F2, M2, acc, xs, s2, f2, m2, h2, ra, q2⟩
  by_cases hlt : i < items.length
  · rw [List.drop_eq_getElem_cons hlt] at q2
    obtain ⟨g2, q2⟩ := q2
    have jj := (jw.run F2 M2 H2 s2.same s2.rel g2).2 i items[i] (List.getElem?_eq_getElem hlt)
    refine .inr ⟨jj.1, fun H3 => ∃ m', m' < items.length - i ∧ (m' = items.length - (i + 1) ∧ Pv (i + 1) H3), fun H3 h => h, fun x H3 y => ?_⟩
    obtain ⟨F3, s3, rp⟩ := jj.2 x H3 y
    obtain ⟨h3, f3, m3⟩ := s3.fr D _ h2 f2 m2 (fun _ z => nomatch z)
    have s23 := s2.trans s3
    refine ⟨F3, M2, dwipe ρ vs, items[i], _, rp, ((rs.mono s1.same).mono s23.same).wipe vs, s3.rel, q2, fun σ4 ρ4 F4 M4 H4 s4 rs4 o4 q4 => ?_⟩
    obtain ⟨h4, f4, m4⟩ := s4.fr D _ h3 f3 m3 (fun _ z => nomatch z)
    have s24 := s23.trans s4
    refine ⟨(o4.more hv).wipe.trans wipe_idem, F4, M4, ρ4, _, rs4, s4.rel, q4, fun b F5 M5 H5 s5 q5 => ?_⟩
    obtain ⟨h5, f5, m5⟩ := s5.fr D _ h4 f4 m4 (fun _ z => nomatch z)
    have s25 := s24.trans s5
    cases b with
    | false =>
      refine iteF ?_
      exact ⟨items.length - (i + 1), by omega, rfl, hlt, F5, M5, acc, xs, s25, f5, m5, h5, (((ra.mono s3.same).mono s4.same).mono s5.same), q5⟩
    | true =>
      refine iteT ?_
      refine ⟨F5, M5, ρ4, _, rs4.mono s5.same, s5.rel, q5, fun v d F6 M6 H6 s6 rp6 ⟨hl, q6⟩ => ?_⟩
      obtain ⟨h6, f6, m6⟩ := s6.fr D _ h5 f5 m5 (fun _ z => nomatch z)
      have s26 := s25.trans s6
      have ra6 : RpAll K F6 (xs ++ [v]) (acc ++ [d]) := (((((ra.mono s3.same).mono s4.same).mono s5.same).mono s6.same)).append (.cons rp6 .nil)
      refine ⟨xs, h6, by rw [ra.length]; exact hl, items.length - (i + 1), by omega, rfl, hlt, F6, M6, acc ++ [d], xs ++ [v], ?_, f6, m6, upd_same, ra6, q6⟩
      refine Stp.of s1.rel ⟨s26.same, ⟨fun b u z => ?_, fun a m z => ?_, s6.rel.r.nt⟩, fun a o h f m n => ?_, fun t => tabs_lst h6 (s26.s.tab t)⟩
      · rw [upd_ne (ne_of_none z f6)]; exact s6.rel.sub _ _ z
      · obtain ⟨f, o, e, rr⟩ := s6.rel.mt a m z
        have ne : a ≠ D := fun e => by subst e; rw [m6] at z; cases z
        exact ⟨f, o, by rw [upd_ne ne]; exact e, rr⟩
      · obtain ⟨h', f', m'⟩ := s26.fr a o h f m n
        rw [upd_ne (ne_of_none h hD)]; exact ⟨h', f', m'⟩
  · have e : i = items.length := by omega
    subst e
    rw [List.drop_length] at q2
    obtain ⟨g2, q2⟩ := q2
    refine .inl ⟨(jw.run F2 M2 H2 s2.same s2.rel g2).1, ?_⟩
    have sn : Same F2 (upd F2 D (.lst xs)) := same_new f2
    cases fz with
    | true =>
      refine k (.ref D) (.lst acc) (upd F2 D (.lst xs)) M2 H2 (s1.trans (Stp.of s1.rel ⟨s2.same.trans sn, ⟨fun b u z => ?_, fun a m z => ?_, fun a ps z => ?_⟩, fun a o h f m n => ?_, s2.s.tab⟩)) (.lst upd_same (ra.mono sn)) q2
      · by_cases e : b = D
        · subst e; rw [upd_same] at z; cases z; exact h2
        · rw [upd_ne e] at z; exact s2.rel.sub _ _ z
      · obtain ⟨f, o, e, rr⟩ := s2.rel.mt a m z
        have ne : a ≠ D := fun e => by subst e; rw [m2] at z; cases z
        exact ⟨by rw [upd_ne ne]; exact f, o, e, rr.mono sn⟩
      · by_cases e : a = D
        · subst e; rw [upd_same] at z; cases z
        · rw [upd_ne e] at z; exact s2.rel.r.nt a ps z
      · obtain ⟨h', f', m'⟩ := s2.fr a o h f m n
        exact ⟨h', by rw [upd_ne (ne_of_none h hD)]; exact f', m'⟩
    | false =>
      refine k (.ref D) (.ref D) F2 (mu M2 D (.lst acc)) H2 (s1.trans (Stp.of s1.rel ⟨s2.same, ⟨s2.rel.sub, fun a m z => ?_, s2.rel.r.nt⟩, fun a o h f m n => ?_, s2.s.tab⟩)) (.ref D) (q2 D m2)
      · by_cases e : a = D
        · subst e; rw [mu_same] at z; cases z; exact ⟨f2, _, h2, ra⟩
        · rw [mu_ne e] at z; exact s2.rel.mt a m z
      · obtain ⟨h', f', m'⟩ := s2.fr a o h f m n
        exact ⟨h', f', by rw [mu_ne (ne_of_none h hD)]; exact m'⟩
section
variable {X : Cx} {Y : KJ X.K} {pos : Pos}
theorem de_lc (fz : Bool) {elt tg iter : Expr} {ifs : List Expr} {scope : Scope} {own : List (Str × Nat)} {wi : DTI} {g : DTG} {ws : List Nat} {tt : DTT} {te : DTE} (hc : X.calm = true) (hN : X.N.Nodup) (hi : DI X Y tg iter wi) (ok : BlkOk X.N X.env.scope scope own) (hv : ∀ i ∈ ws, i ∈ own.map (·.2))
    (hg : ∀ (s : Shared) (H : Hp) (C : Addr) (cl : List (Str × Addr)) (fp : List Addr), DG (X.blk s H scope (compEnvC scope cl C X.env) fp) Y tg g ws) (ht : ∀ (s : Shared) (H : Hp) (C : Addr) (cl : List (Str × Addr)) (fp : List Addr), DTs (X.blk s H scope (compEnvC scope cl C X.env) fp) Y ifs tt)
    (he : ∀ (s : Shared) (H : Hp) (C : Addr) (cl : List (Str × Addr)) (fp : List Addr), DE (X.blk s H scope (compEnvC scope cl C X.env) fp) Y elt te) (hs : ∀ x, foldedSetIterable iter X.env x = pure x := by intro _; rfl) :
    DE X Y (.ListComp elt [⟨tg, iter, ifs, 0⟩] scope pos) (dLc fz wi g tt te (own.map (·.2))) :=
  PE.weak (pe_lc hc hN hi ok hg ht he hs) fun _ _ _ q => can_lc hv q
theorem ds_setLc (fz : Bool) {i : Nat} {y : Str} {py : Pos} {elt tg iter : Expr} {ifs : List Expr} {scope : Scope} {own : List (Str × Nat)} {spos : Pos} {wi : DTI} {g : DTG} {ws : List Nat} {tt : DTT} {te : DTE} (hc : X.calm = true) (hN : X.N.Nodup) (hy : X.N[i]? = some y) (hyl : X.env.scope.names.lookup y = some .local)
    (hsw : swapsWith (.ListComp elt [⟨tg, iter, ifs, 0⟩] scope pos) (some (.Name y py)) spos.line X.env = pure true) (hi : DI X Y tg iter wi) (ok : BlkOk X.N X.env.scope scope own) (hv : ∀ i ∈ ws, i ∈ own.map (·.2))
    (hg : ∀ (s : Shared) (H : Hp) (C : Addr) (cl : List (Str × Addr)) (fp : List Addr), DG (X.blk s H scope (compEnvC scope cl C X.env) fp) Y tg g ws) (ht : ∀ (s : Shared) (H : Hp) (C : Addr) (cl : List (Str × Addr)) (fp : List Addr), DTs (X.blk s H scope (compEnvC scope cl C X.env) fp) Y ifs tt)
    (he : ∀ (s : Shared) (H : Hp) (C : Addr) (cl : List (Str × Addr)) (fp : List Addr), DE (X.blk s H scope (compEnvC scope cl C X.env) fp) Y elt te) (hs : ∀ x, foldedSetIterable iter X.env x = pure x := by intro _; rfl) :
    DS X Y (.Assign [.Name y py] (.ListComp elt [⟨tg, iter, ifs, 0⟩] scope pos) spos) (dAsg (dLc fz wi g tt te (own.map (·.2))) (dgName i)) := by
  refine PS.weak (ps_setLc (g := canG Y g ws) (tt := canT Y tt) (te := canE Y te) hc hN hy hyl hsw hi ok hg ht he hs) ?_
  rintro D0 σ H ⟨F, M, ρ, D, rs, r, q, k⟩
  refine can_lc hv ⟨F, M, ρ, _, rs, r, q, fun v d F1 M1 H1 s1 rp q1 => ?_⟩
  exact k.nx _ _ F1 M1 H1 s1 ((rs.mono s1.same).set rp i) q1
end

end
end DL

/-! DG: the promise of a def where no repr is under way around it (guards = []); its call, its proof by the body, the law's end. -/
namespace DL
open PySem PySem.Spec L2
open PyProof.Rows hiding St

/-- as FnOk, but asked only where no repr is under way -/
structure GnOk (P : Program) (w : World) (K : PySem.W.Frag) (mg : Str → Option Value) (base : Heap) (CX : CXT) (k : Nat) (f : Addr) (fd : FuncData) (ps : List Str) (sp : Sp) : Prop where
  many : ∀ {vs H Q E}, sp vs H Q E → vs.length = ps.length
  go : ∀ {A : Around} {outer : List Env} {s : Shared} {H : Hp} {args : Args} {us : List Value} {vs : List V} {Q : VK} {E : XK},
    Room k A → A.guards = some [] → Env0 P w K mg base A outer s H → BindsTo s fd args (ps.zip us) → Vals vs us → sp vs H Q E →
    codeAny (model P w) A (.call (.ref f) args) (CR CX outer P w H s Q E) s
theorem GnOk.up {P : Program} {w : World} {K : PySem.W.Frag} {mg : Str → Option Value} {base : Heap} {CX : CXT} {j k : Nat} {f : Addr} {fd : FuncData} {ps : List Str} {sp : Sp}
    (G : GnOk P w K mg base CX j f fd ps sp) (h : j ≤ k) : GnOk P w K mg base CX k f fd ps sp :=
  ⟨G.many, fun r => G.go (r.mono h)⟩
section
variable {X : Cx} {Y : KJ X.K} {CX : CXT} {k : Nat} {f : Addr} {fd : FuncData} {ps : List Str} {sp : Sp} {dvs : List V} {ds : List Value} {E : XK} {x : Str} {p pos : Pos} {e : Expr} {es : List Expr} {t : TA}
theorem run_gn {pins : List (Addr × Obj)} {σ : St} {H : Hp} {s : Shared} {Q : VK} {us : List Value} {vs : List V}
    (G : GnOk X.prog X.w X.K X.mg X.base CX k f fd ps sp) (room : Room k X.A) (gu : X.A.guards = some []) (bi : Binds X.K fd ps ds) (dv : Vals dvs ds) (out : Passes CX X E)
    (I : Inv X pins σ H s) (rv : Vals vs us) (q : sp (vs ++ dvs) H Q E) : wpAny (model X.prog X.w) X.A (call (.ref f) us) (EP X pins σ Q) X.xe s := by
  have all := rv.append dv
  have cnt : (us ++ ds).length = ps.length := all.length.symm.trans (G.many q)
  refine wpAny_call (codeAny_mono (G.go room gu I.env0 (bi s us I.kIn cnt) all q) fun res s' hq => ?_)
  match res, hq with
  | .error er, hq => exact out pins σ H s er s' I hq
  | .ok (.ret u), hq => exact I.after hq
  | .ok .next, hq => exact hq.elim
  | .ok .brk, hq => exact hq.elim
  | .ok .cont, hq => exact hq.elim
theorem pe_gcall (G : GnOk X.prog X.w X.K X.mg X.base CX k f fd ps sp) (room : Room k X.A) (gu : X.A.guards = some []) (hg : Gl X x) (m : X.mg x = some (.ref f)) (kp : PySem.W.keepIn X.K (.ref f) = true)
    (bi : Binds X.K fd ps ds) (dv : Vals dvs ds) (out : Passes CX X E) (ha : PA X (e :: es) t) (nd : (x == ("__debug__" : Str)) = false) (se : starEach (e :: es) X.env = (false, eval e X.env) :: starEach es X.env)
    (ns : (backTo pos (starEach es X.env)).any (·.1) = false) : PE X (.Call (.Name x p) (e :: es) [] pos) (tCall sp dvs E t) := by
  constructor
  intro pins s σ H Q I q
  refine wpAny_Call_Name_kw (ld_glob I hg m ?_ nd)
  refine PySem.W.callWith_K (h₀ := X.base) I.ok.mod.kin kp (thn (ha.run pos pins s σ H _ I q) ?_) se ns
  rintro us s1 ⟨vs, H1, I1, rv, q1⟩
  exact ⟨I1.kIn, run_gn G room gu bi dv out I1 rv q1⟩
theorem pe_gcall0 (G : GnOk X.prog X.w X.K X.mg X.base CX k f fd ps sp) (room : Room k X.A) (gu : X.A.guards = some []) (hg : Gl X x) (m : X.mg x = some (.ref f)) (kp : PySem.W.keepIn X.K (.ref f) = true)
    (bi : Binds X.K fd ps ds) (dv : Vals dvs ds) (out : Passes CX X E) (nd : (x == ("__debug__" : Str)) = false) : PE X (.Call (.Name x p) [] [] pos) (tCall sp dvs E tNil) := by
  constructor
  intro pins s σ H Q I q
  refine wpAny_Call_Name_kw (ld_glob I hg m ?_ nd)
  exact PySem.W.callWith_K0 I.kIn kp (run_gn (us := []) G room gu bi dv out I .nil q)
end

/-- a def by its body, no repr under way -/
theorem gfn_of {CX : CXT} {P : Program} {w : World} {K : PySem.W.Frag} {mg : Str → Option Value} {base : Heap} {k : Nat} {f : Addr} {nm qual : Str} {par : Arguments} {body : List Stmt} {scope : Scope} {dV kV doc pm cd ct oc : Value} {an od : Option Addr}
    {osl : Array (Option Value)} {N ps : List Str} {sp : Sp} (lk : K.lookup f = some ⟨oc, od, .func (PySem.W.fnOf nm qual par body scope dV kV doc pm an cd ct), osl⟩) (hcd : PySem.W.codeIn K cd qual = true) (S : FnScope N ps scope)
    (many : ∀ {vs H Q E}, sp vs H Q E → vs.length = ps.length)
    (run : ∀ (A : Around) (outer : List Env) (s : Shared) (H : Hp) (vs : List V) (Q : VK) (E : XK), Room k (A.deeper (envOfC qual scope s.heap.objs.size f cd)) → (A.deeper (envOfC qual scope s.heap.objs.size f cd)).guards = some [] → sp vs H Q E →
      ∃ t, PSs (cxOf CX P w K mg base N qual scope f cd A outer s H E) body t ∧ t { nx := fun _ H' => Q .non H', rt := Q } (L2.start N vs) H) :
    GnOk P w K mg base CX (k + 1) f (PySem.W.fnOf nm qual par body scope dV kV doc pm an cd ct) ps sp := by
  constructor
  · exact many
  intro A outer s H args us vs Q E room gu e0 hb rv hs
  have cnt := many hs
  have keep : ∀ b o, base.get? b = some o → s.heap.get? b = some o := fun b o z => (e0.bs b o z).1
  have KX : K.In s.heap := e0.mod.kin.keeps keep
  have par : ∀ y ∈ ps.zip us, scope.names.lookup y.1 = some .local ∨ (scope.names.lookup y.1 = some .cell ∧ ((cellsFrom (s.heap.objs.size + 1) scope.names []).lookup y.1).isSome = true) := by
    rintro ⟨n, v⟩ hy
    cases S.par n (List.of_mem_zip hy).1 with
    | inl z => exact .inl z
    | inr z => exact .inr ⟨z, PySem.W.cellsFrom_some _ _ _ (.inl z)⟩
  refine codeAny_call_function room.depth (KX _ _ lk) rfl S.co S.gen rfl (PySem.W.codeRec_of KX hcd) (hb _ _ _ _ ?_)
  refine wpAny_newFunctionEnv_cells S.kind par ?_
  rintro env rfl s1 x
  refine ⟨(e0.mod.nolimit.keeps keep).keeps x.toInCall.keep, codeAny_func ?_⟩
  obtain ⟨t, ht, hq⟩ := run A outer s H vs Q E (room.deeper _) gu hs
  have I : Inv (cxOf CX P w K mg base N qual scope f cd A outer s H E) [] (L2.start N vs) H s1 := inv_start S room.hd e0 cnt rv x
  refine wpAny_mono (ht.run [] s1 (L2.start N vs) H _ I hq) ?_ fun _ _ z => z
  intro fl s' z
  match fl, z with
  | .ret u, ⟨v, σ', H', J, r, q⟩ => exact ⟨v, H', J.os, J.bare, J.base, J.hok, r, q⟩
  | .next, ⟨σ', H', J, q⟩ => exact ⟨V.non, H', J.os, J.bare, J.base, J.hok, rfl, q⟩
  | .brk, ⟨_, _, _, q⟩ => exact (show False from q).elim
  | .cont, ⟨_, _, _, q⟩ => exact (show False from q).elim

/-- the law's call over the heap behind the top -/
theorem glaw_call {CXa : CXT} {P : Program} {w : World} {K : PySem.W.Frag} {mg mb : Str → Option Value} {k : Nat} {fa a : Addr} {fd : FuncData} {x : Str} {sp : Sp} {s0 : Shared} {vs : List Value} {ns : List Int}
    (KX : K.In s0.heap) (hns : s0.heap.Ns mainGlobals mg) (hb : s0.heap.Ns builtinsNs mb) (hbb : ∀ x : Str, x ≠ "__name__" → mb x = bootBuiltins x) (hlim : s0.heap.NoLimit) (hg : s0.gens = #[])
    (ha : s0.heap.get? a = some { cls := .type "list", data := .seq vs.toArray }) (hi : IntsAre vs ns) (hl : ns.length ≤ sizeLine) (room : Room k callerA)
    (G : ∀ base : Heap, K.In base → base.Ns mainGlobals mg → GnOk P w K mg base CXa k fa fd [x] sp) (nothing : ∀ outer H s e s', ¬ CXa outer H s (fun _ _ _ => False) e s') (bind1 : ∀ (s : Shared) (u : Value), BindsTo s fd ⟨[u], []⟩ [(x, u)])
    (due : ∀ H : Hp, SqL K H a (ns.map V.int) → sp [.ref a] H (fun v _ => v = .bl true) fun _ _ _ => False) :
    codeAny (model P w) callerA (.call (.ref fa) ⟨[.ref a], []⟩) (fun r s' => r = .ok (.ret (.bool true)) ∧ OldK s0.heap s'.heap ∧ s'.os = s0.os ∧ AllBare s'.gens) s0 := by
  have rv := vals_ints hi
  have many := hi.length
  have main : ∀ H : Hp, (∀ b, H b = none ∨ ∃ o xs, H b = some (.frz o (.lst xs))) → SqL K H a (ns.map V.int) → HOk P w H s0.heap → (∀ b, H b ≠ none → b = a) → (H a ≠ none → K.lookup a = none) →
      codeAny (model P w) callerA (.call (.ref fa) ⟨[.ref a], []⟩) (fun r s' => r = .ok (.ret (.bool true)) ∧ OldK s0.heap s'.heap ∧ s'.os = s0.os ∧ AllBare s'.gens) s0 := by
    intro H only hS ok hA hK
    have isA : ∀ {b : Addr} {z : HO}, H b = some z → b = a := fun {b z} q => hA b (by rw [q]; exact fun y => by cases y)
    have plain : ∀ {b : Addr} {o : Obj} {es : Array DictEntry} {ep : Nat}, s0.heap.get? b = some o → o.data = .dict es ep → H b = none := by
      intro b o es ep e d
      cases q : H b with
      | none => rfl
      | some u =>
        obtain rfl := isA q
        rw [ha] at e
        cases e
        exact nomatch (show Data.seq vs.toArray _ = Data.dict es ep from d)
    have ns' : ∀ {b : Addr} {m : Str → Option Value}, s0.heap.Ns b m → (hidT s0.heap H).Ns b m := by
      rintro b m ⟨o, es, ep, e, d, r⟩
      exact ⟨o, es, ep, hidT_get e (plain e d), d, r⟩
    have Kb : K.In (hidT s0.heap H) := by
      intro b o e
      refine hidT_get (KX b o e) ?_
      cases q : H b with
      | none => rfl
      | some u =>
        obtain rfl := isA q
        rw [hK (by rw [q]; exact fun y => by cases y)] at e
        cases e
    have e0 : Env0 P w K mg (hidT s0.heap H) callerA [] s0 H := by
      refine ⟨rfl, ⟨Kb, ns' hns, ⟨mb, ns' hb, hbb⟩, ?_⟩, fun b o e => of_hidT e, Nat.le_of_eq (hidT_size _ _), trivial, ?_, ok, .of_eq hg⟩
      · obtain ⟨mc, h1, h2⟩ := hlim
        exact ⟨mc, ns' h1, h2⟩
      · intro b hb
        exact absurd (show b ∈ ([] : List Addr) from hb) (by simp)
    refine codeAny_mono ((G _ Kb (ns' hns)).go (args := ⟨[.ref a], []⟩) (us := [.ref a]) (vs := [V.ref a]) room rfl e0 (bind1 s0 (.ref a)) (.cons rfl .nil) (due H hS)) ?_
    intro r s' z
    match r, z with
    | .error _, z => exact absurd z (nothing _ _ _ _ _)
    | .ok .next, z => exact z.elim
    | .ok .brk, z => exact z.elim
    | .ok .cont, z => exact z.elim
    | .ok (.ret u), ⟨v, H', os, bare, un, ok', r', q⟩ =>
      obtain rfl : v = .bl true := q
      obtain rfl : u = Value.bool true := r'
      refine ⟨rfl, OldK.of_keep ?_, os, bare⟩
      intro b o e
      cases q : H b with
      | none => exact un.keep b o e q (fun z => absurd (show b ∈ ([] : List Addr) from z) (by simp)) (by simp)
      | some u =>
        rcases only b with z | ⟨ob, xs, z⟩
        · rw [q] at z
          cases z
        · have e1 := (ok b _ z).1
          have e2 := (ok' b _ (un.frzs b ob _ z)).1
          rw [e] at e1
          cases e1
          exact e2
  cases hk : K.lookup a with
  | some o =>
    have e := KX a o hk
    rw [ha] at e
    cases e
    exact main (fun _ => none) (fun _ => .inl rfl) (.inr ⟨_, vs.toArray, _, hk, rfl, rfl, rfl, by rw [List.size_toArray, many]; exact hl, by simpa using rv⟩) (fun b u z => nomatch z) (fun b z => absurd rfl z) fun z => absurd rfl z
  | none =>
    have at1 : ∀ {b : Addr}, b = a → (if b = a then some (HO.frz { cls := .type "list", data := .seq vs.toArray } (.lst (ns.map V.int))) else none) = some (.frz { cls := .type "list", data := .seq vs.toArray } (.lst (ns.map V.int))) := fun h => if_pos h
    refine main (fun b => if b = a then some (.frz { cls := .type "list", data := .seq vs.toArray } (.lst (ns.map V.int))) else none) ?_ (.inl (.inr ⟨_, at1 rfl⟩)) ?_ ?_ fun _ => hk
    · intro b
      by_cases h : b = a
      · exact .inr ⟨_, _, at1 h⟩
      · exact .inl (if_neg h)
    · intro b u z
      by_cases h : b = a
      · have z' := (at1 h).symm.trans z
        cases z'
        subst h
        exact ⟨ha, by rw [List.length_map]; exact hl, vs, _, rv, ha⟩
      · have z' := (if_neg h).symm.trans z
        cases z'
    · intro b z
      by_cases h : b = a
      · exact h
      · exact absurd (if_neg h) z
theorem gwalk_of {l : PySem.W.OpenLaw} {n k : Nat} {q : Program} {loose : List Str} {XP : (Str → Option Value) → Heap → Prop} {YP : World → Heap → Prop} {d : DefRec} {K : Params → PySem.W.Frag} {sp : World → Sp} {x : Str}
    (most : l.most = some n) (le : n ≤ sizeLine) (dfl : d.params.defaults = []) (room : Room k callerA)
    (inY : ∀ (w : World) (h : Heap), YP w h → (K w.params).In h)
    (G : ∀ (w : World) (mg : Str → Option Value) (fa : Addr) (h : Heap), (K w.params).In h → h.Ns mainGlobals mg → mg d.name = some (.ref fa) →
      ∃ fd : FuncData, (∀ (s : Shared) (u : Value), BindsTo s fd ⟨[u], []⟩ [(x, u)]) ∧
        ∀ base : Heap, (K w.params).In base → base.Ns mainGlobals mg → GnOk l.prog w (K w.params) mg base (L2.CX l.prog w) k fa fd [x] (sp w))
    (due : ∀ (w : World) (H : Hp) (a : Addr) (ns : List Int), ns.length ≤ n → SqL (K w.params) H a (ns.map V.int) → sp w [.ref a] H (fun v _ => v = .bl true) fun _ _ _ => False) :
    PySem.W.WalkO q loose XP YP l.row.toRowW d [] (fun f vs => PySem.call f vs) := by
  refine Att.attach_call most dfl ?_
  intro w s0 s1 mg mb fa o pm cd doc a vs ns G0 Y ho hd hcd hmg hobj hints hlen hg
  have KX := inY w _ Y
  obtain ⟨fd, hb, hF⟩ := G w mg fa _ KX G0.T.g hmg
  exact glaw_call KX G0.T.g G0.T.b G0.T.builtins G0.T.nolimit hg hobj hints (Nat.le_trans hlen le) room hF (fun _ _ _ _ _ ⟨_, _, _, _, _, _, _, _, _, _, _, _, z⟩ => z) hb fun H hS => due w H a ns hlen hS
/-! ### defs and calls -/
/-- what is wished where the class under x is raised with a value -/
abbrev DXK := Str → DL.D → Mp → Prop
abbrev DSp := List DL.D → Mp → DK → DXK → Prop
/-- an exception over data: of the class that stands under x, its value v -/
structure ExR (K : PySem.W.Frag) (F : Hp) (x : Str) (v : DL.D) (cls : Value) (d : Option Addr) : Prop where
  ex : ∃ (C dx : Addr) (u : V), PySem.W.nsIn K mainGlobals x = some (some (.ref C)) ∧ cls = .ref C ∧ d = some dx ∧ F dx = some (.xd [("value", u)]) ∧ Rp K F u v
/-- a promise over data, as one over the heap -/
def lift (K : PySem.W.Frag) (T : TT8) (sp : DSp) : Sp := fun vs H Q0 E0 => ∃ ds F M Q E, RpAll K F vs ds ∧ RelR K F M H ∧ LamX.Tabs T H ∧ sp ds M Q E ∧
  (∀ v d F' M' H', StpR K T F M H F' M' H' → Rp K F' v d → Q d M' → Q0 v H') ∧
  ∀ x v cls d F' M' H', StpR K T F M H F' M' H' → ExR K F' x v cls d → E x v M' → E0 cls d H'
/-- a def that is to be called by its name x: its promise over data; es: the defaults of its last parameters -/
structure Cal (P : Program) (w : World) (K : PySem.W.Frag) (T : TT8) (mg : Str → Option Value) (base : Heap) (k : Nat) (x : Str) (es : List DL.D) (sp : DSp) : Prop where
  ex : ∃ (f : Addr) (fd : FuncData) (ps : List Str) (dvs : List V) (us : List Value), GnOk P w K mg base (L2.CX P w) k f fd ps (lift K T sp) ∧ mg x = some (.ref f) ∧ PySem.W.keepIn K (.ref f) = true ∧ Binds K fd ps us ∧ Vals dvs us ∧ ∀ F, RpAll K F dvs es
def dCallX (sp : DSp) (es : List DL.D) (t : DTA) (E : DXK) : DTE := fun ρ M Q => t ρ M fun ds M1 => sp (ds ++ es) M1 Q E
def dCall (sp : DSp) (es : List DL.D) (t : DTA) : DTE := dCallX sp es t fun _ _ _ => False
theorem Cal.mono {P : Program} {w : World} {K : PySem.W.Frag} {T : TT8} {mg : Str → Option Value} {base : Heap} {j k : Nat} {x : Str} {es : List DL.D} {sp : DSp} (C : Cal P w K T mg base j x es sp) (h : j ≤ k) : Cal P w K T mg base k x es sp := by
  obtain ⟨f, fd, ps, dvs, us, a, b⟩ := C.ex
  exact ⟨f, fd, ps, dvs, us, a.up h, b⟩
/-- a body in sight of its tables, from which E may be raised -/
structure XG (X : Cx) (Y : KJ X.K) (E : DXK) : Prop where
  tabs : ∀ F M H, Y.J F M H → LamX.Tabs Y.T H
  ex : ∃ W, Takes X W ∧ ∀ σ F M H x v cls d, Rel Y F M H → ExR X.K F x v cls d → E x v M → W cls d σ H
/-- a body in sight of its tables -/
structure XT {K : PySem.W.Frag} (Y : KJ K) : Prop where
  tabs : ∀ F M H, Y.J F M H → LamX.Tabs Y.T H
theorem XG.xt {X : Cx} {Y : KJ X.K} {E : DXK} (g : XG X Y E) : XT Y := ⟨g.tabs⟩
theorem no_takes {X : Cx} : Takes X (fun _ _ _ _ => False) := fun _ _ x => by
  obtain ⟨_, _, _, _, _, _, _, _, _, _, _, _, _, _, _, _, z⟩ := x
  exact z.elim
theorem XT.none {X : Cx} {Y : KJ X.K} (t : XT Y) : XG X Y fun _ _ _ => False := ⟨t.tabs, _, no_takes, fun _ _ _ _ _ _ _ _ _ _ z => z⟩
section
variable {X : Cx} {Y : KJ X.K} {pos p : Pos}
/-- the exceptions' wish, over the heap -/
def xw (Y : KJ X.K) (E : DXK) : XK := fun cls d H => ∃ F M x v, Rel Y F M H ∧ ExR X.K F x v cls d ∧ E x v M
theorem XG.out {E : DXK} (g : XG X Y E) : Passes (L2.CX X.prog X.w) X (xw Y E) := by
  obtain ⟨W, tk, h⟩ := g.ex
  exact passes_call tk fun cls d σ H ⟨F, M, x, v, r, e, z⟩ => h σ F M H x v cls d r e z
theorem can_call {sp : DSp} {es : List DL.D} {dvs : List V} {t : DTA} {σ : St} {H : Hp} {Q0 : VK} {E : DXK} (tb : XT Y) (rd : ∀ F, RpAll X.K F dvs es) (h : canE Y (dCallX sp es t E) σ H Q0) : tCall (lift X.K Y.T sp) dvs (xw Y E) (canA Y t) σ H Q0 := by
  obtain ⟨F, M, ρ, Q, rs, r, q, k⟩ := h
  refine ⟨F, M, ρ, _, rs, r, q, fun vs ds F1 M1 H1 s1 rp q1 => ?_⟩
  refine ⟨ds ++ es, F1, M1, Q, E, rp.append (rd F1), s1.rel.r, tb.tabs _ _ _ s1.rel.j, q1, fun v d F2 M2 H2 s2 => k v d F2 M2 H2 (s1.trans (Stp.of s1.rel s2)), fun x v cls d F2 M2 H2 s2 e z => ?_⟩
  exact ⟨F2, M2, x, v, (Stp.of s1.rel s2).rel, e, z⟩
theorem de_callX {k : Nat} {x : Str} {es : List DL.D} {sp : DSp} {e : Expr} {args : List Expr} {t : DTA} {E : DXK} (C : Cal X.prog X.w X.K Y.T X.mg X.base k x es sp) (hr : Room k X.A) (gu : X.A.guards = some []) (g : XG X Y E) (ha : DA X Y (e :: args) t) (hg : Gl X x := by rfl)
    (hd : (x == ("__debug__" : Str)) = false := by decide) (he : starEach (e :: args) X.env = (false, eval e X.env) :: starEach args X.env := by rfl) (hpl : (backTo pos (starEach args X.env)).any (·.1) = false := by rfl) :
    DE X Y (.Call (.Name x p) (e :: args) [] pos) (dCallX sp es t E) := by
  obtain ⟨f, fd, ps, dvs, us, G, m, kp, b, vd, rd⟩ := C.ex
  exact PE.weak (pe_gcall G hr gu hg m kp b vd g.out ha hd he hpl) fun _ _ _ q => can_call g.xt rd q
theorem de_call {k : Nat} {x : Str} {es : List DL.D} {sp : DSp} {e : Expr} {args : List Expr} {t : DTA} (C : Cal X.prog X.w X.K Y.T X.mg X.base k x es sp) (hr : Room k X.A) (gu : X.A.guards = some []) (g : XT Y) (ha : DA X Y (e :: args) t) (hg : Gl X x := by rfl)
    (hd : (x == ("__debug__" : Str)) = false := by decide) (he : starEach (e :: args) X.env = (false, eval e X.env) :: starEach args X.env := by rfl) (hpl : (backTo pos (starEach args X.env)).any (·.1) = false := by rfl) :
    DE X Y (.Call (.Name x p) (e :: args) [] pos) (dCall sp es t) := de_callX C hr gu g.none ha hg hd he hpl
theorem de_call0 {k : Nat} {x : Str} {es : List DL.D} {sp : DSp} (C : Cal X.prog X.w X.K Y.T X.mg X.base k x es sp) (hr : Room k X.A) (gu : X.A.guards = some []) (g : XT Y) (hg : Gl X x := by rfl) (hd : (x == ("__debug__" : Str)) = false := by decide) : DE X Y (.Call (.Name x p) [] [] pos) (dCall sp es dNil) := by
  obtain ⟨f, fd, ps, dvs, us, G, m, kp, b, vd, rd⟩ := C.ex
  refine PE.weak (pe_gcall0 G hr gu hg m kp b vd g.none.out hd) fun σ H Q0 q => ?_
  obtain ⟨F, M, ρ, Q, rs, r, q, k⟩ := q
  exact ⟨es, F, M, Q, _, rd F, r.r, g.tabs _ _ _ r.j, q, fun v d F2 M2 H2 s2 => k v d F2 M2 H2 (Stp.of r s2), fun _ _ _ _ _ _ _ _ _ z => z.elim⟩
end
def dstart (N : List Str) (ds : List DL.D) : Rho := ds.map some ++ List.replicate (N.length - ds.length) none
theorem relS_start {K : PySem.W.Frag} {F : Hp} {N : List Str} {vs : List V} {ds : List DL.D} (h : RpAll K F vs ds) : RelS K F (L2.start N vs) (dstart N ds) := by
  refine ⟨?_, fun i d q => ?_⟩
  · unfold L2.start dstart; rw [List.length_append, List.length_append, List.length_map, List.length_map, List.length_replicate, List.length_replicate, h.length]
  · unfold dstart at q
    unfold L2.start
    by_cases hl : i < ds.length
    · rw [List.getElem?_append_left (by rw [List.length_map]; exact hl), List.getElem?_map] at q
      rw [List.getElem?_append_left (by rw [List.length_map, h.length]; exact hl), List.getElem?_map]
      cases e : ds[i]? with
      | none => rw [e] at q; cases q
      | some d' =>
        rw [e] at q; cases q
        obtain ⟨v, e1, r⟩ := h.get e
        exact ⟨v, by rw [e1]; rfl, r⟩
    · rw [List.getElem?_append_right (by rw [List.length_map]; omega), List.getElem?_replicate] at q
      split at q <;> cases q
/-- a def of the text as it stands behind the top, with how its parameters are bound -/
structure Has (K : PySem.W.Frag) (mg : Str → Option Value) (x qual : Str) (st : Stmt) (ps : List Str) (es : List DL.D) : Prop where
  ex : ∃ (f : Addr) (oc : Value) (od : Option Addr) (dV kV doc pm : Value) (an : Option Addr) (cdv ct : Value) (osl : Array (Option Value)) (us : List Value) (dvs : List V),
    K.lookup f = some ⟨oc, od, .func (PySem.W.fnOf x qual (defArgs st) (defBody st) (defScope st) dV kV doc pm an cdv ct), osl⟩ ∧ PySem.W.codeIn K cdv qual = true ∧ PySem.W.keepIn K (.ref f) = true ∧ mg x = some (.ref f) ∧
      Binds K (PySem.W.fnOf x qual (defArgs st) (defBody st) (defScope st) dV kV doc pm an cdv ct) ps us ∧ Vals dvs us ∧ ∀ F, RpAll K F dvs es
/-- a state behind the entry of a def -/
def fromE (K : PySem.W.Frag) (T : TT8) (F0 : Hp) (M0 : Mp) (H0 : Hp) : KJ K where
  T := T
  J := fun F M H => StpR K T F0 M0 H0 F M H ∧ LamX.Tabs T H
  cl := fun ⟨a, t⟩ s => ⟨a.trans s, s.tab t⟩
/-- a body is by rules, from any state on, wherever its exceptions go -/
def DBody (P : Program) (w : World) (K : PySem.W.Frag) (T : TT8) (mg : Str → Option Value) (base : Heap) (k : Nat) (N : List Str) (qual : Str) (st : Stmt) (f : Addr) (t : DXK → DTS) : Prop :=
  ∀ (cdv : Value) (A : Around) (outer : List Env) (s : Shared) (H : Hp) (E : XK) (Y : KJ K) (E1 : DXK), Y.T = T → Room k (A.deeper (envOfC qual (defScope st) s.heap.objs.size f cdv)) → (A.deeper (envOfC qual (defScope st) s.heap.objs.size f cdv)).guards = some [] →
    XG (cxOf (L2.CX P w) P w K mg base N qual (defScope st) f cdv A outer s H E) Y E1 → DSs (cxOf (L2.CX P w) P w K mg base N qual (defScope st) f cdv A outer s H E) Y (defBody st) (t E1)
/-- THE RULE for a def over data: its body by rules, and its reading -/
theorem dgn {P : Program} {w : World} {K : PySem.W.Frag} {T : TT8} {mg : Str → Option Value} {base : Heap} {x qual : Str} {st : Stmt} {N ps : List Str} {k : Nat} {sp : DSp} {f : Addr} {oc : Value} {od : Option Addr} {dV kV doc pm : Value} {an : Option Addr} {cd ct : Value} {osl : Array (Option Value)}
    (lk : K.lookup f = some ⟨oc, od, .func (PySem.W.fnOf x qual (defArgs st) (defBody st) (defScope st) dV kV doc pm an cd ct), osl⟩) (hcd : PySem.W.codeIn K cd qual = true) (S : FnScope N ps (defScope st)) {t : DXK → DTS}
    (body : DBody P w K T mg base k N qual st f t)
    (read : ∀ ds M Q E, sp ds M Q E → ds.length = ps.length ∧ t E { nx := fun _ M' => Q .non M', rt := Q } (dstart N ds) M) :
    GnOk P w K mg base (L2.CX P w) (k + 1) f (PySem.W.fnOf x qual (defArgs st) (defBody st) (defScope st) dV kV doc pm an cd ct) ps (lift K T sp) := by
  refine gfn_of lk hcd S ?_ ?_
  · rintro vs H Q E0 ⟨ds, F, M, Q, E, rp, _, _, q, _⟩
    rw [rp.length]; exact (read ds M Q E q).1
  · rintro A outer s H vs Q0 E0 room gu ⟨ds, F, M, Q, E, rp, r, tb, q, kk, ke⟩
    have g : XG (cxOf (L2.CX P w) P w K mg base N qual (defScope st) f cd A outer s H E0) (fromE K T F M H) E := by
      refine ⟨fun F M H j => j.2, fun cls d _ H => E0 cls d H, takes_of rfl rfl rfl rfl, fun σ F' M' H' x v cls d R e z => ke x v cls d F' M' H' R.j.1 e z⟩
    have B := body cd A outer s H E0 (fromE K T F M H) E rfl room gu g
    have s0 : Rel (fromE K T F M H) F M H := ⟨r, StpR.refl r, tb⟩
    refine ⟨_, B, F, M, dstart N ds, _, relS_start rp, s0, (read ds M Q E q).2, ⟨fun _ _ F' M' H' s' _ q' => kk .non .non F' M' H' s'.s .non q', fun v d F' M' H' s' rp' q' => kk v d F' M' H' s'.s rp' q', fun _ _ _ _ _ _ _ z => z.elim, fun _ _ _ _ _ _ _ z => z.elim⟩⟩
end DL

/-! DL3: operators, comparisons, items, slices, built-ins and methods over data. -/
namespace DL
open PySem PySem.Spec L2
open PyProof.Rows hiding St

/-! ### two places -/
abbrev RD2 := DL.D → DL.D → Mp → DK → Prop
def can2 {K : PySem.W.Frag} (Y : KJ K) (r : RD2) : R2 := fun x y H Q0 => ∃ F M d e Q, Rp K F x d ∧ Rp K F y e ∧ Rel Y F M H ∧ r d e M Q ∧
  ∀ v z F' M' H', Stp Y F M H F' M' H' → Rp K F' v z → Q z M' → Q0 v H'
abbrev OpD (X : Cx) (Y : KJ X.K) (f : Value → Value → Sem Value) (r : RD2) : Prop := OpR X f (can2 Y r)
def dOp (r : RD2) (t u : DTE) : DTE := fun ρ M Q => t ρ M fun x M1 => u ρ M1 fun y M2 => r x y M2 Q
section
variable {X : Cx} {Y : KJ X.K} {pos : Pos} {a b c : Expr} {t u v : DTE}
theorem can_op {K : PySem.W.Frag} {Y : KJ K} {r : RD2} {σ : St} {H : Hp} {Q0 : VK} (h : canE Y (dOp r t u) σ H Q0) : tOp (can2 Y r) (canE Y t) (canE Y u) σ H Q0 := by
  obtain ⟨F, M, ρ, Q, rs, rl, q, k⟩ := h
  refine ⟨F, M, ρ, _, rs, rl, q, fun x d F1 M1 H1 s1 rp1 q1 => ?_⟩
  refine ⟨F1, M1, ρ, _, rs.mono s1.same, s1.rel, q1, fun y e F2 M2 H2 s2 rp2 q2 => ?_⟩
  exact ⟨F2, M2, d, e, Q, rp1.mono s2.same, rp2, s2.rel, q2, fun v z F3 M3 H3 s3 => k v z F3 M3 H3 ((s1.trans s2).trans s3)⟩
theorem de_op {op : Operator} {r : RD2} (ho : OpD X Y (binaryOp op) r) (ha : DE X Y a t) (hb : DE X Y b u) : DE X Y (.BinOp a op b pos) (dOp r t u) :=
  PE.weak (pe_op ho ha hb) fun _ _ _ q => can_op q
theorem de_cmp {op : CmpOp} {r : RD2} (ho : OpD X Y (compareOp op) r) (ha : DE X Y a t) (hb : DE X Y b u) (hm : behindInMarks op b = false) : DE X Y (.Compare a [op] [b] pos) (dOp r t u) :=
  PE.weak (pe_cmpR ho ha hb hm) fun _ _ _ q => can_op q
theorem dt_cmp {op : CmpOp} {r : RD2} (ho : OpD X Y (compareOp op) r) (ha : DE X Y a t) (hb : DE X Y b u) (hm : behindInMarks op b = false) : DT X Y (.Compare a [op] [b] pos) (dB (dOp r t u)) := by
  refine PT.weak (pt_cmpR ho ha hb hm) ?_
  rintro σ H Q0 ⟨F, M, ρ, Q, rs, rl, q, k⟩
  refine can_op ⟨F, M, ρ, _, rs, rl, q, fun v d F1 M1 H1 s1 rp ⟨b, e, q1⟩ => ?_⟩
  subst e
  cases rp
  exact ⟨b, rfl, k b F1 M1 H1 s1 q1⟩
def dChain (r r' : RD2) (t u v : DTE) : DTE := fun ρ M Q => t ρ M fun x M1 => u ρ M1 fun y M2 => r x y M2 fun z M3 => ∃ k, z = .bl k ∧
  (if k = true then v ρ M3 fun w M4 => r' y w M4 Q else Q (.bl false) M3)
theorem can_chain {K : PySem.W.Frag} {Y : KJ K} {r r' : RD2} {σ : St} {H : Hp} {Q0 : VK} (h : canE Y (dChain r r' t u v) σ H Q0) : tChain (can2 Y r) (can2 Y r') (canE Y t) (canE Y u) (canE Y v) σ H Q0 := by
  obtain ⟨F, M, ρ, Q, rs, rl, q, k⟩ := h
  refine ⟨F, M, ρ, _, rs, rl, q, fun x d F1 M1 H1 s1 rp1 q1 => ?_⟩
  refine ⟨F1, M1, ρ, _, rs.mono s1.same, s1.rel, q1, fun y e F2 M2 H2 s2 rp2 q2 => ?_⟩
  have s12 := s1.trans s2
  refine ⟨F2, M2, d, e, _, rp1.mono s2.same, rp2, s2.rel, q2, fun vv z F3 M3 H3 s3 rp3 ⟨kk, ez, q3⟩ => ?_⟩
  have s13 := s12.trans s3
  subst ez
  cases rp3
  refine ⟨kk, rfl, ?_⟩
  cases kk with
  | false => exact k _ _ F3 M3 H3 s13 (.bl false) q3
  | true =>
    refine iteT ⟨F3, M3, ρ, _, rs.mono s13.same, s3.rel, q3, fun w dw F4 M4 H4 s4 rp4 q4 => ?_⟩
    exact ⟨F4, M4, e, dw, Q, (rp2.mono s3.same).mono s4.same, rp4, s4.rel, q4, fun v z F5 M5 H5 s5 => k v z F5 M5 H5 ((s13.trans s4).trans s5)⟩
theorem de_chain {op op' : CmpOp} {r r' : RD2} (ho : OpD X Y (compareOp op) r) (ho' : OpD X Y (compareOp op') r') (ha : DE X Y a t) (hb : DE X Y b u) (hc : DE X Y c v)
    (hm : lastMarks [op, op'] [b, c] = false := by with_unfolding_all rfl) : DE X Y (.Compare a [op, op'] [b, c] pos) (dChain r r' t u v) :=
  PE.weak (pe_chain ho ho' ha hb hc hm) fun _ _ _ q => can_chain q
theorem dt_chain {op op' : CmpOp} {r r' : RD2} (ho : OpD X Y (compareOp op) r) (ho' : OpD X Y (compareOp op') r') (ha : DE X Y a t) (hb : DE X Y b u) (hc : DE X Y c v)
    (hm : lastMarks [op, op'] [b, c] = false := by with_unfolding_all rfl) : DT X Y (.Compare a [op, op'] [b, c] pos) (dB (dChain r r' t u v)) := by
  refine PT.weak (pt_chain ho ho' ha hb hc hm) ?_
  rintro σ H Q0 ⟨F, M, ρ, Q, rs, rl, q, k⟩
  refine can_chain ⟨F, M, ρ, _, rs, rl, q, fun v d F1 M1 H1 s1 rp ⟨b, e, q1⟩ => ?_⟩
  subst e
  cases rp
  exact ⟨b, rfl, k b F1 M1 H1 s1 q1⟩
end

/-! ### the items of a list, wherever it stands -/
def mol : Option MO → Option (List DL.D)
  | some (.lst xs) => some xs
  | _ => none
theorem mol_some {o : Option MO} {ds : List DL.D} (h : mol o = some ds) : o = some (.lst ds) := by
  cases o with
  | none => cases h
  | some m => cases m with
    | lst xs => cases h; rfl
    | obj x fs => cases h
def lstOf (M : Mp) : DL.D → Option (List DL.D)
  | .lst xs => some xs
  | .slst xs => some xs
  | .ref a => mol (M a)
  | _ => none
/-- the same, without the lists that the module or the caller holds -/
def lstIn (M : Mp) : DL.D → Option (List DL.D)
  | .lst xs => some xs
  | .ref a => mol (M a)
  | _ => none
section
variable {K : PySem.W.Frag} {Y : KJ K} {F : Hp} {M : Mp} {H : Hp}
theorem lstOf_rp {v : V} {d : DL.D} {ds : List DL.D} (R : Rel Y F M H) (r : Rp K F v d) (h : lstOf M d = some ds) : ∃ a xs, v = .ref a ∧ SqL K H a xs ∧ RpAll K F xs ds := by
  cases r with
  | lst e ra => cases h; exact ⟨_, _, rfl, SqL.of (R.sub _ _ e), ra⟩
  | slst e ra => cases h; exact ⟨_, _, rfl, R.sub.seq e, ra⟩
  | ref a =>
    obtain ⟨xs, e1, ra⟩ := R.lst (mol_some (show mol (M a) = some ds from h))
    exact ⟨a, xs, rfl, SqL.of e1, ra⟩
  | _ => cases h
theorem lstIn_rp {v : V} {d : DL.D} {ds : List DL.D} (R : Rel Y F M H) (r : Rp K F v d) (h : lstIn M d = some ds) : ∃ a xs, v = .ref a ∧ H a = some (.lst xs) ∧ RpAll K F xs ds := by
  cases r with
  | lst e ra => cases h; exact ⟨_, _, rfl, R.sub _ _ e, ra⟩
  | ref a =>
    obtain ⟨xs, e1, ra⟩ := R.lst (mol_some (show mol (M a) = some ds from h))
    exact ⟨a, xs, rfl, e1, ra⟩
  | _ => cases h
theorem lstOf_ref {a : Addr} {ds : List DL.D} (h : M a = some (.lst ds)) : lstOf M (.ref a) = some ds := by show mol (M a) = some ds; rw [h]; rfl
theorem lstIn_ref {a : Addr} {ds : List DL.D} (h : M a = some (.lst ds)) : lstIn M (.ref a) = some ds := by show mol (M a) = some ds; rw [h]; rfl
end

/-! ### arithmetic, joining -/
def rInt (C : Int → Int → Prop) (g : Int → Int → DL.D) : RD2 := fun x y M Q => ∃ i j, x = .int i ∧ y = .int j ∧ C i j ∧ Q (g i j) M
def rAddD (fz : Bool) : RD2
  | .int i, .int j, M, Q => Q (.int (i + j)) M
  | .str x, .str y, M, Q => x.length + y.length ≤ sizeLine ∧ Q (.str (x ++ y)) M
  | .tup xs, .tup ys, M, Q => xs.length + ys.length ≤ sizeLine ∧ Q (.tup (xs ++ ys)) M
  | x, y, M, Q => ∃ xs ys, lstIn M x = some xs ∧ lstIn M y = some ys ∧ xs.length + ys.length ≤ sizeLine ∧ newL fz (xs ++ ys) M Q
section
variable {X : Cx} {Y : KJ X.K}
theorem op_int {f : Value → Value → Sem Value} {C : Int → Int → Prop} {g : Int → Int → V} {g' : Int → Int → DL.D} (h : OpR X f (rI C g)) (hg : ∀ F i j, Rp X.K F (g i j) (g' i j)) : OpD X Y f (rInt C g') := by
  intro pins s σ H x y v u Q0 I rx ry ⟨F, M, d, e, Q, r1, r2, rl, ⟨i, j, e1, e2, c, q⟩, k⟩
  subst e1 e2
  cases r1
  cases r2
  exact h pins s σ H _ _ v u Q0 I rx ry ⟨i, j, rfl, rfl, c, k _ _ F M H (Stp.refl rl) (hg F i j) q⟩
theorem op_int0 {f : Value → Value → Sem Value} {g : Int → Int → V} {g' : Int → Int → DL.D} (h : OpR X f (rI0 g)) (hg : ∀ F i j, Rp X.K F (g i j) (g' i j)) : OpD X Y f (rInt (fun _ _ => True) g') := by
  intro pins s σ H x y v u Q0 I rx ry ⟨F, M, d, e, Q, r1, r2, rl, ⟨i, j, e1, e2, _, q⟩, k⟩
  subst e1 e2
  cases r1
  cases r2
  exact h pins s σ H _ _ v u Q0 I rx ry ⟨i, j, rfl, rfl, k _ _ F M H (Stp.refl rl) (hg F i j) q⟩
theorem od_add (fz : Bool) : OpD X Y (binaryOp .Add) (rAddD fz) := by
  intro pins s σ H x y v u Q0 I rx ry ⟨F, M, d, e, Q, r1, r2, rl, q, k⟩
  have lists : ∀ xs ys, lstIn M d = some xs → lstIn M e = some ys → xs.length + ys.length ≤ sizeLine → newL fz (xs ++ ys) M Q → wpAny (model X.prog X.w) X.A (binaryOp .Add v u) (EP X pins σ Q0) X.xe s := by
    intro xs ys e1 e2 hz q
    obtain ⟨a, vs, rfl, h1, ra⟩ := lstIn_rp rl r1 e1
    obtain ⟨b, ws, rfl, h2, rb⟩ := lstIn_rp rl r2 e2
    exact op_cat pins s σ H _ _ v u Q0 I rx ry ⟨a, b, vs, ws, rfl, rfl, h1, h2, by rw [ra.length, rb.length]; exact hz, fun p hp => newL_ok rl (ra.append rb) q k p hp⟩
  unfold rAddD at q
  split at q
  · cases r1
    cases r2
    exact op_add pins s σ H _ _ v u Q0 I rx ry ⟨_, _, rfl, rfl, k _ _ F M H (Stp.refl rl) (.int _) q⟩
  · cases r1
    cases r2
    exact op_add_str pins s σ H _ _ v u Q0 I rx ry ⟨_, _, rfl, rfl, q.1, k _ _ F M H (Stp.refl rl) (.str _) q.2⟩
  · cases r1 with
    | tup s1 ra =>
      cases r2 with
      | tup s2 rb =>
        refine op_catA pins s σ H _ _ v u Q0 I rx ry ⟨_, _, _, _, rfl, rfl, Same.tseq rl.sub s1, Same.tseq rl.sub s2, by rw [ra.length, rb.length]; exact q.1, fun e => ?_, fun _ e => ?_, fun _ _ p hp => newT_ok rl (ra.append rb) q.2 k p hp⟩
        · subst e
          cases ra
          exact k _ _ F M H (Stp.refl rl) (.tup s2 rb) q.2
        · subst e
          cases rb
          refine k _ _ F M H (Stp.refl rl) (.tup s1 ra) ?_
          have := q.2
          rwa [List.append_nil] at this
  · obtain ⟨xs, ys, e1, e2, hz, q⟩ := q
    exact lists xs ys e1 e2 hz q

theorem od_sub : OpD X Y (binaryOp .Sub) (rInt (fun _ _ => True) fun i j => .int (i - j)) := op_int0 op_sub fun _ _ _ => .int _
theorem od_mod : OpD X Y (binaryOp .Mod) (rInt (fun _ j => 0 < j) fun i j => .int (i % j)) := op_int op_mod fun _ _ _ => .int _
theorem od_fdiv : OpD X Y (binaryOp .FloorDiv) (rInt (fun _ j => 0 < j ∧ j.natAbs < 2 ^ 64) fun i j => .int (i / j)) := by
  intro pins s σ H x y v u Q0 I rx ry ⟨F, M, d, e, Q, r1, r2, rl, ⟨i, j, e1, e2, c, q⟩, k⟩
  exact op_int (C := CDivW) (g' := fun i j => .int (i / j)) op_fdivW (fun _ _ _ => .int _) pins s σ H x y v u Q0 I rx ry ⟨F, M, d, e, Q, r1, r2, rl, ⟨i, j, e1, e2, wide_div c.1 c.2 (by decide) (by decide), q⟩, k⟩
theorem od_pow : OpD X Y (binaryOp .Pow) (rInt (fun i j => 0 ≤ j ∧ j ≤ 1000000 ∧ i.natAbs < 2 ^ 64) fun i j => .int (i ^ j.toNat)) := op_int op_pow fun _ _ _ => .int _
/-- ** of great numbers -/
theorem op_powW : OpR X (binaryOp .Pow) (rI (fun i j => 0 ≤ j ∧ (Builtin.Int.intBits i : Int) * j ≤ 2 ^ 27) fun i j => .int (i ^ j.toNat)) := opI fun _ _ _ _ _ _ _ hc q => pow_int hc.1 hc.2 q
theorem od_powW : OpD X Y (binaryOp .Pow) (rInt (fun i j => 0 ≤ j ∧ (Builtin.Int.intBits i : Int) * j ≤ 2 ^ 27) fun i j => .int (i ^ j.toNat)) := op_int op_powW fun _ _ _ => .int _

/-! ### * -/
def repS (x : Str) (n : Int) : Str := ⟨(List.replicate n.toNat x.cps.toList).flatten.toArray⟩
theorem repS_foldl (x : Str) : ∀ (n : Nat) (acc : Array Nat), (List.replicate n x.cps).foldl (· ++ ·) acc = acc ++ (List.replicate n x.cps.toList).flatten.toArray
  | 0, acc => by simp
  | n + 1, acc => by
    rw [List.replicate_succ, List.foldl_cons, repS_foldl x n, List.replicate_succ, List.flatten_cons]
    apply Array.ext'
    simp
theorem repS_eq (x : Str) (n : Int) : (⟨(List.replicate n.toNat x.cps).foldl (· ++ ·) #[]⟩ : Str) = repS x n := by
  unfold repS
  rw [repS_foldl]
  simp
theorem repS_len (x : Str) (n : Int) : (repS x n).length = n.toNat * x.length := by
  show (List.replicate n.toNat x.cps.toList).flatten.toArray.size = n.toNat * x.cps.size
  simp
theorem op_mul_str : OpR X (binaryOp .Mult) (fun x y H Q => ∃ z n, x = .str z ∧ y = .int n ∧ 0 ≤ n ∧ n ≤ 16384 ∧ z.length ≤ 1024 ∧ Q (.str (repS z n)) H) := by
  intro pins s σ H x y v u Q I rx ry h
  obtain ⟨z, n, rfl, rfl, h1, h2, hz, q⟩ := h
  obtain ⟨t, rfl⟩ := rx
  obtain ⟨t', rfl⟩ := ry
  have hsz : (sizeLine : Nat) = 16777216 := sizeLine_eq
  have hnat : z.length * n.toNat ≤ 1024 * 16384 := Nat.mul_le_mul hz (by omega)
  have fin : ∀ tk : Tok, EP X pins σ Q (.str (repS z n) tk) { s with toks := s.toks + 1 } := fun tk => ⟨.str _, H, I.tok _, ⟨_, rfl⟩, q⟩
  refine PySem.P.mul_str ?_ (fun h3 _ => ?_) (fun h3 _ => ?_) ?_
  · rw [decide_eq_false (by omega), decide_eq_false (by omega)]; rfl
  · intro hgt
    have hdiv : (1024 : Int) ≤ (2 ^ 63 - 1) / n := (Int.le_ediv_iff_mul_le (by omega)).mpr (by omega)
    omega
  · unfold Builtin.Str.tooLong
    rw [decide_eq_false (by omega)]
  · split
    · rename_i h0
      have e0 : n = 0 := by omega
      subst e0
      exact ⟨by decide, fin _⟩
    · split
      · rename_i h0 h3
        have e1 : repS z n = z := by
          have e : n = 1 ∨ z.length = 0 := by simpa using h3
          unfold repS
          rcases e with e | e
          · subst e; simp
          · have ez : z.cps = #[] := Array.size_eq_zero_iff.mp e
            obtain ⟨c⟩ := z
            simp only at ez
            subst ez
            simp
        refine ⟨.str z, H, I, ⟨_, rfl⟩, ?_⟩
        rw [← e1]; exact q
      · refine ⟨?_, ?_⟩
        · rw [repS_eq, repS_len, Nat.mul_comm]; omega
        · rw [repS_eq]; exact fin _
def rMulD (fz : Bool) : RD2
  | .int i, .int j, M, Q => (∃ a b : Nat, i.natAbs < 2 ^ a ∧ j.natAbs < 2 ^ b ∧ a + b ≤ 134217728) ∧ Q (.int (i * j)) M
  | .str x, .int n, M, Q => 0 ≤ n ∧ n ≤ 16384 ∧ x.length ≤ 1024 ∧ Q (.str (repS x n)) M
  | x, .int n, M, Q => ∃ xs, lstIn M x = some xs ∧ 0 ≤ n ∧ n < 2 ^ 62 ∧ xs.length * n.toNat ≤ sizeLine ∧ newL fz (List.replicate n.toNat xs).flatten M Q
  | _, _, _, _ => False
theorem od_mul (fz : Bool) : OpD X Y (binaryOp .Mult) (rMulD fz) := by
  intro pins s σ H x y v u Q0 I rx ry ⟨F, M, d, e, Q, r1, r2, rl, q, k⟩
  unfold rMulD at q
  split at q
  · cases r1
    cases r2
    obtain ⟨⟨a, b, ha, hb, hab⟩, q⟩ := q
    exact (opI fun _ _ _ _ _ _ _ hc q => mul_int q (CMulX.ok hc)) pins s σ H _ _ v u Q0 I rx ry ⟨_, _, rfl, rfl, mulx_ok ha hb hab, k _ _ F M H (Stp.refl rl) (.int _) q⟩
  · cases r1
    cases r2
    obtain ⟨h1, h2, h3, q⟩ := q
    exact op_mul_str pins s σ H _ _ v u Q0 I rx ry ⟨_, _, rfl, rfl, h1, h2, h3, k _ _ F M H (Stp.refl rl) (.str _) q⟩
  · cases r2
    obtain ⟨xs, e1, h1, h2, hz, q⟩ := q
    obtain ⟨a, vs, rfl, h3, ra⟩ := lstIn_rp rl r1 e1
    exact op_rep pins s σ H _ _ v u Q0 I rx ry ⟨a, _, vs, rfl, rfl, h3, by omega, by omega, by rw [ra.length]; exact hz, fun p hp => newL_ok rl (ra.rep _) q k p hp⟩
  · exact q.elim

/-! ### == and != -/
mutual
def D.py : DL.D → Option PyData
  | .non => some .none
  | .bl b => some (.bool b)
  | .int i => some (.int i)
  | .str x => some (.str x)
  | .tup xs => match pyAll xs with
    | some ps => some (.tuple ps)
    | none => none
  | .lst xs => match pyAll xs with
    | some ps => some (.list ps)
    | none => none
  | .slst xs => match pyAll xs with
    | some ps => some (.list ps)
    | none => none
  | .ref _ => none
  | .dct _ _ => none
  | .exc _ _ => none
def pyAll : List DL.D → Option (List PyData)
  | [] => some []
  | x :: xs => match x.py, pyAll xs with
    | some p, some ps => some (p :: ps)
    | _, _ => none
end
mutual
theorem py_dp {K : PySem.W.Frag} {F H : Hp} (sub : Same F H) : ∀ (d : DL.D) (v : V) (p : PyData), Rp K F v d → d.py = some p → Dp K H v p
  | .non, _, _, r, h => by cases r; simp only [D.py] at h; cases h; exact .non
  | .bl b, _, _, r, h => by cases r; simp only [D.py] at h; cases h; exact .bl b
  | .int i, _, _, r, h => by cases r; simp only [D.py] at h; cases h; exact .int i
  | .str x, _, _, r, h => by cases r; simp only [D.py] at h; cases h; exact .str x
  | .ref a, _, _, r, h => by simp only [D.py] at h; cases h
  | .dct _ _, _, _, r, h => by simp only [D.py] at h; cases h
  | .exc _ _, _, _, r, h => by simp only [D.py] at h; cases h
  | .tup xs, _, _, r, h => by
    cases r with
    | tup sq ra =>
      simp only [D.py] at h
      split at h
      · rename_i ps e
        cases h
        exact .tup (Same.tseq sub sq) (pyAll_dp sub xs _ ps ra e)
      · cases h
  | .lst xs, _, _, r, h => by
    cases r with
    | lst sq ra =>
      simp only [D.py] at h
      split at h
      · rename_i ps e
        cases h
        exact .lst (SqL.of (sub _ _ sq)) (pyAll_dp sub xs _ ps ra e)
      · cases h
  | .slst xs, _, _, r, h => by
    cases r with
    | slst sq ra =>
      simp only [D.py] at h
      split at h
      · rename_i ps e
        cases h
        exact .lst (sub.seq sq) (pyAll_dp sub xs _ ps ra e)
      · cases h
theorem pyAll_dp {K : PySem.W.Frag} {F H : Hp} (sub : Same F H) : ∀ (ds : List DL.D) (vs : List V) (ps : List PyData), RpAll K F vs ds → pyAll ds = some ps → DpAll K H vs ps
  | [], _, _, r, h => by cases r; simp only [pyAll] at h; cases h; exact .nil
  | d :: ds, _, _, r, h => by
    cases r with
    | cons r1 r2 =>
      simp only [pyAll] at h
      split at h
      · rename_i p ps e1 e2
        cases h
        exact .cons (py_dp sub d _ p r1 e1) (pyAll_dp sub ds _ ps r2 e2)
      · cases h
end
/-- a value's data; a list that may change: as it stands -/
def pyM (M : Mp) : DL.D → Option PyData
  | .ref a => match mol (M a) with
    | some xs => match pyAll xs with
      | some ps => some (.list ps)
      | none => none
    | none => none
  | d => d.py
theorem pyM_dp {K : PySem.W.Frag} {Y : KJ K} {F : Hp} {M : Mp} {H : Hp} (R : Rel Y F M H) {v : V} {d : DL.D} {p : PyData} (r : Rp K F v d) (h : pyM M d = some p) : Dp K H v p := by
  unfold pyM at h
  split at h
  · cases r
    split at h
    · rename_i xs e
      split at h
      · rename_i ps e2
        cases h
        obtain ⟨vs, h1, ra⟩ := R.lst (mol_some e)
        exact .lst (SqL.of h1) (pyAll_dp R.sub xs vs ps ra e2)
      · cases h
    · cases h
  · exact py_dp R.sub _ _ _ r h
def rEqD2 (neg : Bool) : RD2
  | .str a, .str b, M, Q => Q (.bl (if neg then !decide (a = b) else decide (a = b))) M
  | .int a, .int b, M, Q => Q (.bl (if neg then !decide (a = b) else decide (a = b))) M
  | .bl a, .bl b, M, Q => Q (.bl (if neg then !decide (a = b) else decide (a = b))) M
  | .str _, .non, M, Q => Q (.bl neg) M
  | .non, .str _, M, Q => Q (.bl neg) M
  | .int _, .non, M, Q => Q (.bl neg) M
  | .non, .int _, M, Q => Q (.bl neg) M
  | .bl _, .non, M, Q => Q (.bl neg) M
  | .non, .bl _, M, Q => Q (.bl neg) M
  | .non, .non, M, Q => Q (.bl (!neg)) M
  | .int _, .str _, M, Q => Q (.bl neg) M
  | .str _, .int _, M, Q => Q (.bl neg) M
  | .bl _, .str _, M, Q => Q (.bl neg) M
  | .str _, .bl _, M, Q => Q (.bl neg) M
  | x, y, M, Q => ∃ p q, pyM M x = some p ∧ pyM M y = some q ∧ SeqAt.shaped p = true ∧ SeqAt.shaped q = true ∧ Q (.bl (if neg then !PyData.eqv p q else PyData.eqv p q)) M
theorem od_eqs (neg : Bool) (hu : X.A.units + 64 < cLine) : OpD X Y (compareOp (if neg then .NotEq else .Eq)) (rEqD2 neg) := by
  intro pins s σ H x y v u Q0 I rx ry ⟨F, M, d, e, Q, r1, r2, rl, q, k⟩
  have sc : ∀ b : Bool, L2.scal x y = true → Rp X.K F (.bl b) (.bl b) → (if neg then !decide (x = y) else decide (x = y)) = b → Q (.bl b) M → wpAny (model X.prog X.w) X.A (compareOp (if neg then .NotEq else .Eq) v u) (EP X pins σ Q0) X.xe s := by
    intro b hs _ hb q
    have k1 := k _ _ F M H (Stp.refl rl) (.bl b) q
    cases neg with
    | true => exact op_ne pins s σ H x y v u Q0 I rx ry ⟨hs, by rw [show (!decide (x = y)) = b from hb]; exact k1⟩
    | false => exact op_eq pins s σ H x y v u Q0 I rx ry ⟨hs, by rw [show decide (x = y) = b from hb]; exact k1⟩
  unfold rEqD2 at q
  split at q
  all_goals first
    | (cases r1; cases r2; refine sc _ rfl (.bl _) ?_ q; cases neg <;> simp)
    | (obtain ⟨p, p2, e1, e2, h1, h2, q⟩ := q
       have k1 := k _ _ F M H (Stp.refl rl) (.bl _) q
       have d1 := pyM_dp rl r1 e1
       have d2 := pyM_dp rl r2 e2
       cases neg with
       | true => exact op_neD hu pins s σ H x y v u Q0 I rx ry ⟨p, p2, d1, d2, h1, h2, k1⟩
       | false => exact op_eqD hu pins s σ H x y v u Q0 I rx ry ⟨p, p2, d1, d2, h1, h2, k1⟩)
theorem od_eq {n : Nat} (hr : Room n X.A) : OpD X Y (compareOp .Eq) (rEqD2 false) := od_eqs false hr.units
theorem od_ne {n : Nat} (hr : Room n X.A) : OpD X Y (compareOp .NotEq) (rEqD2 true) := od_eqs true hr.units

/-! ### order, in -/
def rLtD : RD2
  | .int i, .int j, M, Q => Q (.bl (decide (i < j))) M
  | .str x, .str y, M, Q => Q (.bl (decide (x.cps.toList < y.cps.toList))) M
  | _, _, _, _ => False
theorem od_lt : OpD X Y (compareOp .Lt) rLtD := by
  intro pins s σ H x y v u Q0 I rx ry ⟨F, M, d, e, Q, r1, r2, rl, q, k⟩
  unfold rLtD at q
  split at q
  · cases r1
    cases r2
    exact op_lt pins s σ H _ _ v u Q0 I rx ry ⟨_, _, rfl, rfl, k _ _ F M H (Stp.refl rl) (.bl _) q⟩
  · cases r1
    cases r2
    exact op_lt_str pins s σ H _ _ v u Q0 I rx ry ⟨_, _, rfl, rfl, k _ _ F M H (Stp.refl rl) (.bl _) q⟩
  · exact q.elim
theorem od_le : OpD X Y (compareOp .LtE) (rInt (fun _ _ => True) fun i j => .bl (decide (i ≤ j))) := op_int0 op_le fun _ _ _ => .bl _
theorem od_gt : OpD X Y (compareOp .Gt) (rInt (fun _ _ => True) fun i j => .bl (decide (j < i))) := op_int0 op_gt fun _ _ _ => .bl _
theorem od_ge : OpD X Y (compareOp .GtE) (rInt (fun _ _ => True) fun i j => .bl (decide (j ≤ i))) := op_int0 op_ge fun _ _ _ => .bl _
/-- a flat value as it is told without the heap -/
def vOf : DL.D → V
  | .bl b => .bl b
  | .int i => .int i
  | .str x => .str x
  | _ => .non
def flatD : DL.D → Bool
  | .non => true
  | .bl _ => true
  | .int _ => true
  | .str _ => true
  | _ => false
theorem flat_v {K : PySem.W.Frag} {F : Hp} {v : V} {d : DL.D} (r : Rp K F v d) (h : flatD d = true) : v = vOf d ∧ L2.flatV v = true := by
  cases r <;> first | exact ⟨rfl, rfl⟩ | cases h
theorem flat_vs {K : PySem.W.Frag} {F : Hp} : ∀ {vs : List V} {ds : List DL.D}, RpAll K F vs ds → ds.all flatD = true → vs = ds.map vOf ∧ vs.all L2.flatV = true
  | _, _, .nil, _ => ⟨rfl, rfl⟩
  | _, _, .cons r t, h => by
    rw [List.all_cons, Bool.and_eq_true] at h
    obtain ⟨e1, e2⟩ := flat_v r h.1
    obtain ⟨e3, e4⟩ := flat_vs t h.2
    exact ⟨by rw [List.map_cons, ← e1, ← e3], by rw [List.all_cons, e2, e4]; rfl⟩
def seqOf (M : Mp) : DL.D → Option (List DL.D)
  | .tup xs => some xs
  | d => lstOf M d
theorem seqOf_rp {K : PySem.W.Frag} {Y : KJ K} {F : Hp} {M : Mp} {H : Hp} {v : V} {d : DL.D} {ds : List DL.D} (R : Rel Y F M H) (r : Rp K F v d) (h : seqOf M d = some ds) : ∃ a xs, v = .ref a ∧ (SqL K H a xs ∨ SqT K H a xs) ∧ RpAll K F xs ds := by
  unfold seqOf at h
  split at h
  · cases h
    cases r with
    | tup sq ra => exact ⟨_, _, rfl, .inr (Same.tseq R.sub sq), ra⟩
  · obtain ⟨a, xs, e, h1, ra⟩ := lstOf_rp R r h
    exact ⟨a, xs, e, .inl h1, ra⟩
def rInD (neg : Bool) : RD2
  | .str x, .str y, M, Q => ∃ c, x = ⟨#[c]⟩ ∧ Q (.bl (if neg then !decide (c ∈ y.cps.toList) else decide (c ∈ y.cps.toList))) M
  | d, e, M, Q => ∃ ys, seqOf M e = some ys ∧ flatD d = true ∧ ys.all flatD = true ∧ Q (.bl (if neg then !(ys.any fun y => L2.eqV (vOf y) (vOf d)) else ys.any fun y => L2.eqV (vOf y) (vOf d))) M
theorem od_ins (neg : Bool) : OpD X Y (compareOp (if neg then .NotIn else .In)) (rInD neg) := by
  intro pins s σ H x y v u Q0 I rx ry ⟨F, M, d, e, Q, r1, r2, rl, q, k⟩
  unfold rInD at q
  split at q
  · cases r1
    cases r2
    obtain ⟨c, e1, q⟩ := q
    subst e1
    have k1 := k _ _ F M H (Stp.refl rl) (.bl _) q
    cases neg with
    | true => exact op_notIn_sign pins s σ H _ _ v u Q0 I rx ry ⟨c, _, rfl, rfl, k1⟩
    | false => exact op_in_sign pins s σ H _ _ v u Q0 I rx ry ⟨c, _, rfl, rfl, k1⟩
  · obtain ⟨ys, e1, f1, f2, q⟩ := q
    have k1 := k _ _ F M H (Stp.refl rl) (.bl _) q
    obtain ⟨a, xs, rfl, h1, ra⟩ := seqOf_rp rl r2 e1
    obtain ⟨ev, fv⟩ := flat_v r1 f1
    obtain ⟨ews, fws⟩ := flat_vs ra f2
    have ei : (ys.any fun y => L2.eqV (vOf y) (vOf d)) = L2.inV x xs := by
      unfold L2.inV
      rw [ews, ev, List.any_map]
      rfl
    rw [ei] at k1
    cases neg with
    | true => exact op_notIn_seq pins s σ H _ _ v u Q0 I rx ry ⟨a, xs, rfl, h1, fv, fws, k1⟩
    | false => exact op_in_seq pins s σ H _ _ v u Q0 I rx ry ⟨a, xs, rfl, h1, fv, fws, k1⟩
theorem od_in : OpD X Y (compareOp .In) (rInD false) := od_ins false
theorem od_notIn : OpD X Y (compareOp .NotIn) (rInD true) := od_ins true
def isNon : DL.D → Bool
  | .non => true
  | _ => false
def rIsN (neg : Bool) : RD2 := fun x y M Q => y = .non ∧ Q (.bl (if neg then !isNon x else isNon x)) M
theorem isNon_v {K : PySem.W.Frag} {F : Hp} {v : V} {d : DL.D} (r : Rp K F v d) : decide (v = .non) = isNon d := by cases r <;> simp [isNon]
theorem od_iss (neg : Bool) : OpD X Y (compareOp (if neg then .IsNot else .Is)) (rIsN neg) := by
  intro pins s σ H x y v u Q0 I rx ry ⟨F, M, d, e, Q, r1, r2, rl, ⟨e1, q⟩, k⟩
  subst e1
  cases r2
  have k1 := k _ _ F M H (Stp.refl rl) (.bl _) q
  rw [← isNon_v r1] at k1
  cases neg with
  | true => exact op_notN pins s σ H _ _ v u Q0 I rx ry ⟨rfl, k1⟩
  | false => exact op_isN pins s σ H _ _ v u Q0 I rx ry ⟨rfl, k1⟩
theorem od_is : OpD X Y (compareOp .Is) (rIsN false) := od_iss false
theorem od_isNot : OpD X Y (compareOp .IsNot) (rIsN true) := od_iss true
end
end DL

/-! DL4: items, slices, built-in calls, methods, what is walked, over data. -/
namespace DL
open PySem PySem.Spec L2
open PyProof.Rows hiding St

section
variable {X : Cx} {Y : KJ X.K} {pos p2 : Pos} {a b e : Expr} {t u : DTE}
/-! ### items -/
def rIxD : RD2
  | .str z, .int i, M, Q => z.length ≤ sizeLine ∧ ∃ c, atI z.cps.toList i = some c ∧ Q (.str ⟨#[c]⟩) M
  | x, .int i, M, Q => ∃ xs d, seqOf M x = some xs ∧ atI xs i = some d ∧ Q d M
  | _, _, _, _ => False
theorem atI_rp {K : PySem.W.Frag} {F : Hp} {vs : List V} {ds : List DL.D} {i : Int} {d : DL.D} (ra : RpAll K F vs ds) (h : atI ds i = some d) : ∃ v, atI vs i = some v ∧ Rp K F v d := by
  unfold atI at h ⊢
  rw [ra.length]
  cases e : ixN ds.length i with
  | none => rw [e] at h; cases h
  | some j =>
    rw [e] at h
    exact ra.get (show ds[j]? = some d from h)
theorem ixd : IxR X (can2 Y rIxD) := by
  intro value slice pins s σ H x y v w Q0 I rx ry ⟨F, M, d, e, Q, r1, r2, rl, q, k⟩ hs
  unfold rIxD at q
  split at q
  · cases r1
    cases r2
    obtain ⟨hz, c, hc, q⟩ := q
    exact ix_str value slice pins s σ H _ _ v w Q0 I rx ry ⟨_, _, c, rfl, rfl, hz, hc, k _ _ F M H (Stp.refl rl) (.str _) q⟩ hs
  · cases r2
    obtain ⟨xs, dd, e1, e2, q⟩ := q
    obtain ⟨p, vs, rfl, h1, ra⟩ := seqOf_rp rl r1 e1
    obtain ⟨vv, h2, rp⟩ := atI_rp ra e2
    have k1 := k vv dd F M H (Stp.refl rl) rp q
    rcases h1 with h1 | h1
    · exact ix_list value slice pins s σ H _ _ v w Q0 I rx ry ⟨p, vs, _, vv, rfl, rfl, h1, h2, k1⟩ hs
    · exact ix_tup value slice pins s σ H _ _ v w Q0 I rx ry ⟨p, vs, _, vv, rfl, rfl, h1, h2, k1⟩ hs
  · exact q.elim
theorem de_ix (ha : DE X Y a t) (hb : DE X Y b u) (hs : PlainIx b := by exact fun _ _ => rfl) : DE X Y (.Subscript a b pos) (dOp rIxD t u) :=
  PE.weak (pe_ix ixd ha hb hs) fun _ _ _ q => can_op q

/-! ### slices -/
abbrev DTO := Rho → Mp → (Option Int → Mp → Prop) → Prop
def canO {K : PySem.W.Frag} (Y : KJ K) (t : DTO) : TO := fun σ H Q0 => ∃ F M ρ Q, RelS K F σ ρ ∧ Rel Y F M H ∧ t ρ M Q ∧ ∀ o F' M' H', Stp Y F M H F' M' H' → Q o M' → Q0 o H'
abbrev DO (X : Cx) (Y : KJ X.K) (e : Option Expr) (t : DTO) : Prop := PO X e (canO Y t)
def dNoPart : DTO := fun _ M Q => Q none M
def dPart (t : DTE) : DTO := fun ρ M Q => t ρ M fun d M1 => ∃ i, d = .int i ∧ Q (some i) M1
theorem do_none : DO X Y none dNoPart := by
  refine ⟨fun pins s σ H Q0 I ⟨F, M, ρ, Q, rs, rl, q, k⟩ => ?_⟩
  exact po_none.run pins s σ H _ I (k none F M H (Stp.refl rl) q)
theorem do_some (h : DE X Y e t) : DO X Y (some e) (dPart t) := by
  refine ⟨fun pins s σ H Q0 I ⟨F, M, ρ, Q, rs, rl, q, k⟩ => ?_⟩
  refine (po_some h).run pins s σ H _ I ⟨F, M, ρ, _, rs, rl, q, fun v d F1 M1 H1 s1 rp ⟨i, e1, q1⟩ => ?_⟩
  subst e1
  cases rp
  exact ⟨i, rfl, k _ F1 M1 H1 s1 q1⟩
def cutD {α : Type} (xs : List α) (lo hi : Option Int) : List α := (xs.drop (HT.sIx xs.length 0 lo)).take (HT.sIx xs.length xs.length hi - HT.sIx xs.length 0 lo)
theorem cut_rp {K : PySem.W.Frag} {F : Hp} {vs : List V} {ds : List DL.D} (ra : RpAll K F vs ds) (lo hi : Option Int) : RpAll K F (cutV vs lo hi) (cutD ds lo hi) := by
  unfold cutV cutD
  rw [ra.length]
  exact (ra.drop _).take _
def rSlD (fz : Bool) : DL.D → Option Int → Option Int → Mp → DK → Prop
  | .str z, lo, hi, M, Q => z.length ≤ sizeLine ∧ Q (.str (L2.cutS z lo hi)) M
  | .tup xs, lo, hi, M, Q => Q (.tup (cutD xs lo hi)) M
  | x, lo, hi, M, Q => ∃ xs, lstOf M x = some xs ∧ newL fz (cutD xs lo hi) M Q
def canSl {K : PySem.W.Frag} (Y : KJ K) (r : DL.D → Option Int → Option Int → Mp → DK → Prop) : V → Option Int → Option Int → Hp → VK → Prop := fun x lo hi H Q0 => ∃ F M d Q, Rp K F x d ∧ Rel Y F M H ∧ r d lo hi M Q ∧
  ∀ v z F' M' H', Stp Y F M H F' M' H' → Rp K F' v z → Q z M' → Q0 v H'
theorem sld (fz : Bool) : SlR X (canSl Y (rSlD fz)) := by
  intro pins s σ H x v vl vu lo hi sl Q0 I rx hs pl pu ⟨F, M, d, Q, r1, rl, q, k⟩
  unfold rSlD at q
  split at q
  · cases r1
    exact sl_str pins s σ H _ v vl vu lo hi sl Q0 I rx hs pl pu ⟨_, rfl, q.1, k _ _ F M H (Stp.refl rl) (.str _) q.2⟩
  · cases r1 with
    | tup sq ra =>
      refine sl_tupA pins s σ H _ v vl vu lo hi sl Q0 I rx hs pl pu ?_
      refine ⟨_, _, rfl, Same.tseq rl.sub sq, fun ⟨h1, h2⟩ => ?_, fun _ p hp => newT_ok rl (cut_rp ra lo hi) q k p hp⟩
      rw [ra.length] at h1 h2
      refine k _ _ F M H (Stp.refl rl) (.tup sq ra) ?_
      unfold cutD at q
      rw [h1, h2] at q
      simpa using q
  · obtain ⟨xs, e1, q⟩ := q
    obtain ⟨p, vs, rfl, h1, ra⟩ := lstOf_rp rl r1 e1
    exact sl_list pins s σ H _ v vl vu lo hi sl Q0 I rx hs pl pu ⟨p, vs, rfl, h1, fun p hp => newL_ok rl (cut_rp ra lo hi) q k p hp⟩
def dSl (fz : Bool) (t : DTE) (l h : DTO) : DTE := fun ρ M Q => t ρ M fun x M1 => l ρ M1 fun lo M2 => h ρ M2 fun hi M3 => rSlD fz x lo hi M3 Q
theorem de_slice (fz : Bool) {lo hi : Option Expr} {l h : DTO} (he : DE X Y e t) (hl : DO X Y lo l) (hh : DO X Y hi h) : DE X Y (.Subscript e (.Slice lo hi none p2) pos) (dSl fz t l h) := by
  refine PE.weak (pe_slice (sld (Y := Y) fz) he hl hh) ?_
  rintro σ H Q0 ⟨F, M, ρ, Q, rs, rl, q, k⟩
  refine ⟨F, M, ρ, _, rs, rl, q, fun v d F1 M1 H1 s1 rp q1 => ?_⟩
  refine ⟨F1, M1, ρ, _, rs.mono s1.same, s1.rel, q1, fun lo F2 M2 H2 s2 q2 => ?_⟩
  refine ⟨F2, M2, ρ, _, (rs.mono s1.same).mono s2.same, s2.rel, q2, fun hi F3 M3 H3 s3 q3 => ?_⟩
  exact ⟨F3, M3, d, Q, (rp.mono s2.same).mono s3.same, s3.rel, q3, fun v z F4 M4 H4 s4 => k v z F4 M4 H4 (((s1.trans s2).trans s3).trans s4)⟩

/-! ### built-in calls -/
abbrev RDL := List DL.D → Mp → DK → Prop
def canL {K : PySem.W.Frag} (Y : KJ K) (r : RDL) : List V → Hp → VK → Prop := fun vs H Q0 => ∃ F M ds Q, RpAll K F vs ds ∧ Rel Y F M H ∧ r ds M Q ∧
  ∀ v z F' M' H', Stp Y F M H F' M' H' → Rp K F' v z → Q z M' → Q0 v H'
abbrev CallD (X : Cx) (Y : KJ X.K) (f : Value) (r : RDL) : Prop := CallR X f (canL Y r)
def dCB (r : RDL) (t : DTA) : DTE := fun ρ M Q => t ρ M fun ds M1 => r ds M1 Q
theorem can_cb {K : PySem.W.Frag} {Y : KJ K} {r : RDL} {ta : DTA} {σ : St} {H : Hp} {Q0 : VK} (h : canE Y (dCB r ta) σ H Q0) : tCB (canL Y r) (canA Y ta) σ H Q0 := by
  obtain ⟨F, M, ρ, Q, rs, rl, q, k⟩ := h
  refine ⟨F, M, ρ, _, rs, rl, q, fun vs ds F1 M1 H1 s1 rp q1 => ?_⟩
  exact ⟨F1, M1, ds, Q, rp, s1.rel, q1, fun v z F2 M2 H2 s2 => k v z F2 M2 H2 (s1.trans s2)⟩
theorem de_b {id : String} {x : Str} {p : Pos} {es : List Expr} {r : RDL} {ta : DTA} (hc : CallD X Y (.builtin id) r) (hm : X.mg x = none) (ha : DA X Y (e :: es) ta) (hv : bootBuiltins x = some (.builtin id) := by decide +kernel) (hg : Gl X x := by rfl)
    (hn : x ≠ "__name__" := by decide) (hdb : (x == ("__debug__" : Str)) = false := by decide)
    (he : starEach (e :: es) X.env = (false, eval e X.env) :: starEach es X.env := by rfl) (hpl : (backTo pos (starEach es X.env)).any (·.1) = false := by rfl) : DE X Y (.Call (.Name x p) (e :: es) [] pos) (dCB r ta) :=
  PE.weak (pe_callB hc hg hm hv ha hn hdb he hpl) fun _ _ _ q => can_cb q
theorem de_bT {T : String} {x : Str} {p : Pos} {es : List Expr} {r : RDL} {ta : DTA} (hc : CallD X Y (.type T) r) (hm : X.mg x = none) (ha : DA X Y (e :: es) ta) (hv : bootBuiltins x = some (.type T) := by decide +kernel) (hg : Gl X x := by rfl)
    (hn : x ≠ "__name__" := by decide) (hdb : (x == ("__debug__" : Str)) = false := by decide)
    (he : starEach (e :: es) X.env = (false, eval e X.env) :: starEach es X.env := by rfl) (hpl : (backTo pos (starEach es X.env)).any (·.1) = false := by rfl) : DE X Y (.Call (.Name x p) (e :: es) [] pos) (dCB r ta) :=
  PE.weak (pe_callTy hc hg hm hv ha hn hdb he hpl) fun _ _ _ q => can_cb q
theorem rp1 {K : PySem.W.Frag} {F : Hp} {vs : List V} {d : DL.D} (h : RpAll K F vs [d]) : ∃ v, vs = [v] ∧ Rp K F v d := by
  cases h with
  | cons r t => cases t; exact ⟨_, rfl, r⟩
theorem rp2 {K : PySem.W.Frag} {F : Hp} {vs : List V} {d d' : DL.D} (h : RpAll K F vs [d, d']) : ∃ v v', vs = [v, v'] ∧ Rp K F v d ∧ Rp K F v' d' := by
  cases h with
  | cons r t =>
    obtain ⟨v, e, r'⟩ := rp1 t
    exact ⟨_, v, by rw [e], r, r'⟩
theorem rp_map {K : PySem.W.Frag} {F : Hp} {α : Type} {f : α → DL.D} {g : α → V} (h : ∀ v a, Rp K F v (f a) → v = g a) : ∀ {vs : List V} {as : List α}, RpAll K F vs (as.map f) → vs = as.map g
  | _, [], .nil => rfl
  | _, a :: as, .cons r t => by rw [List.map_cons, h _ a r, rp_map h t]
theorem rp_ints {K : PySem.W.Frag} {F : Hp} {vs : List V} {ns : List Int} (h : RpAll K F vs (ns.map D.int)) : vs = ns.map V.int := rp_map (fun v a r => by cases r; rfl) h
theorem rp_strs {K : PySem.W.Frag} {F : Hp} {vs : List V} {ns : List Str} (h : RpAll K F vs (ns.map D.str)) : vs = ns.map V.str := rp_map (fun v a r => by cases r; rfl) h
theorem rp_bls {K : PySem.W.Frag} {F : Hp} {vs : List V} {ns : List Bool} (h : RpAll K F vs (ns.map D.bl)) : vs = ns.map V.bl := rp_map (fun v a r => by cases r; rfl) h
theorem of_ints {K : PySem.W.Frag} {F : Hp} : ∀ ns : List Int, RpAll K F (ns.map V.int) (ns.map D.int)
  | [] => .nil
  | n :: ns => .cons (.int n) (of_ints ns)
theorem of_strs {K : PySem.W.Frag} {F : Hp} : ∀ ns : List Str, RpAll K F (ns.map V.str) (ns.map D.str)
  | [] => .nil
  | n :: ns => .cons (.str n) (of_strs ns)
def rLen : RDL
  | [.str x], M, Q => x.length ≤ sizeLine ∧ Q (.int x.length) M
  | [d], M, Q => ∃ xs, seqOf M d = some xs ∧ Q (.int xs.length) M
  | _, _, _ => False
theorem cd_len : CallD X Y (.builtin "len") rLen := by
  intro pins s σ H vs us Q0 I r ⟨F, M, ds, Q, rp, rl, q, k⟩
  unfold rLen at q
  split at q
  · obtain ⟨v, rfl, r1⟩ := rp1 rp
    cases r1
    exact call_len pins s σ H _ us Q0 I r ⟨_, _, rfl, ⟨q.1, rfl⟩, k _ _ F M H (Stp.refl rl) (.int _) q.2⟩
  · obtain ⟨v, rfl, r1⟩ := rp1 rp
    obtain ⟨xs, e1, q⟩ := q
    obtain ⟨p, ws, rfl, h1, ra⟩ := seqOf_rp rl r1 e1
    refine call_len_seq pins s σ H _ us Q0 I r ⟨p, ws, rfl, h1, ?_⟩
    rw [ra.length]
    exact k _ _ F M H (Stp.refl rl) (.int _) q
  · exact q.elim
def rAllD : RDL := fun ds M Q => ∃ (d : DL.D) (bs : List Bool), ds = [d] ∧ lstOf M d = some (bs.map D.bl) ∧ Q (.bl (bs.all id)) M
def rAnyD : RDL := fun ds M Q => ∃ (d : DL.D) (bs : List Bool), ds = [d] ∧ lstOf M d = some (bs.map D.bl) ∧ Q (.bl (bs.any id)) M
theorem cd_all (hc : X.calm = true) : CallD X Y (.builtin "all") rAllD := by
  intro pins s σ H vs us Q0 I r ⟨F, M, ds, Q, rp, rl, ⟨d, bs, e, e1, q⟩, k⟩
  subst e
  obtain ⟨v, rfl, r1⟩ := rp1 rp
  obtain ⟨p, ws, rfl, h1, ra⟩ := lstOf_rp rl r1 e1
  rw [rp_bls ra] at h1
  exact cr_all hc pins s σ H _ us Q0 I r ⟨p, bs, rfl, h1, k _ _ F M H (Stp.refl rl) (.bl _) q⟩
theorem cd_any (hc : X.calm = true) : CallD X Y (.builtin "any") rAnyD := by
  intro pins s σ H vs us Q0 I r ⟨F, M, ds, Q, rp, rl, ⟨d, bs, e, e1, q⟩, k⟩
  subst e
  obtain ⟨v, rfl, r1⟩ := rp1 rp
  obtain ⟨p, ws, rfl, h1, ra⟩ := lstOf_rp rl r1 e1
  rw [rp_bls ra] at h1
  exact cr_any hc pins s σ H _ us Q0 I r ⟨p, bs, rfl, h1, k _ _ F M H (Stp.refl rl) (.bl _) q⟩
def rSumD : RDL := fun ds M Q => ∃ (d : DL.D) (ns : List Int), ds = [d] ∧ lstOf M d = some (ns.map D.int) ∧ Q (.int ns.sum) M
theorem cd_sum (hc : X.calm = true) : CallD X Y (.builtin "sum") rSumD := by
  intro pins s σ H vs us Q0 I r ⟨F, M, ds, Q, rp, rl, ⟨d, ns, e, e1, q⟩, k⟩
  subst e
  obtain ⟨v, rfl, r1⟩ := rp1 rp
  obtain ⟨p, ws, rfl, h1, ra⟩ := lstOf_rp rl r1 e1
  rw [rp_ints ra] at h1
  exact cr_sum hc pins s σ H _ us Q0 I r ⟨p, ns, rfl, h1, k _ _ F M H (Stp.refl rl) (.int _) q⟩
def rAbsD : RDL := fun ds M Q => ∃ i, ds = [.int i] ∧ Q (.int (if i < 0 then -i else i)) M
theorem cd_abs : CallD X Y (.builtin "abs") rAbsD := by
  intro pins s σ H vs us Q0 I r ⟨F, M, ds, Q, rp, rl, ⟨i, e, q⟩, k⟩
  subst e
  obtain ⟨v, rfl, r1⟩ := rp1 rp
  cases r1
  exact call_abs pins s σ H _ us Q0 I r ⟨_, rfl, k _ _ F M H (Stp.refl rl) (.int _) q⟩
def rMax2D : RDL := fun ds M Q => ∃ i j, ds = [.int i, .int j] ∧ Q (.int (if j > i then j else i)) M
def rMin2D : RDL := fun ds M Q => ∃ i j, ds = [.int i, .int j] ∧ Q (.int (if j < i then j else i)) M
theorem cd_max2 (hc : X.calm = true) : CallD X Y (.builtin "max") rMax2D := by
  intro pins s σ H vs us Q0 I r ⟨F, M, ds, Q, rp, rl, ⟨i, j, e, q⟩, k⟩
  subst e
  obtain ⟨v, v', rfl, r1, r2⟩ := rp2 rp
  cases r1
  cases r2
  exact call_max2 hc pins s σ H _ us Q0 I r ⟨_, _, rfl, k _ _ F M H (Stp.refl rl) (.int _) q⟩
theorem cd_min2 (hc : X.calm = true) : CallD X Y (.builtin "min") rMin2D := by
  intro pins s σ H vs us Q0 I r ⟨F, M, ds, Q, rp, rl, ⟨i, j, e, q⟩, k⟩
  subst e
  obtain ⟨v, v', rfl, r1, r2⟩ := rp2 rp
  cases r1
  cases r2
  exact call_min2 hc pins s σ H _ us Q0 I r ⟨_, _, rfl, k _ _ F M H (Stp.refl rl) (.int _) q⟩
def rIntD : RDL
  | [.int i], M, Q => Q (.int i) M
  | [.bl b], M, Q => Q (.int (if b = true then 1 else 0)) M
  | _, _, _ => False
theorem cd_int : CallD X Y (.type "int") rIntD := by
  intro pins s σ H vs us Q0 I r ⟨F, M, ds, Q, rp, rl, q, k⟩
  unfold rIntD at q
  split at q
  · obtain ⟨v, rfl, r1⟩ := rp1 rp
    cases r1
    exact call_int1 pins s σ H _ us Q0 I r (.inl ⟨_, rfl, k _ _ F M H (Stp.refl rl) (.int _) q⟩)
  · obtain ⟨v, rfl, r1⟩ := rp1 rp
    cases r1
    exact call_int1 pins s σ H _ us Q0 I r (.inr ⟨_, rfl, k _ _ F M H (Stp.refl rl) (.int _) q⟩)
  · exact q.elim
def rStrD : RDL := fun ds M Q => ∃ i, ds = [.int i] ∧ i.natAbs.log2 < 1920 ∧ Q (.str (toString i)) M
theorem cd_str : CallD X Y (.type "str") rStrD := by
  intro pins s σ H vs us Q0 I r ⟨F, M, ds, Q, rp, rl, ⟨i, e, h1, q⟩, k⟩
  subst e
  obtain ⟨v, rfl, r1⟩ := rp1 rp
  cases r1
  exact call_str_int pins s σ H _ us Q0 I r ⟨_, rfl, h1, k _ _ F M H (Stp.refl rl) (.str _) q⟩
/-- list(a list or a tuple) -/
def rListD (fz : Bool) : RDL := fun ds M Q => ∃ d xs, ds = [d] ∧ seqOf M d = some xs ∧ newL fz xs M Q
theorem cd_list (fz : Bool) : CallD X Y (.type "list") (rListD fz) := by
  intro pins s σ H vs us Q0 I r ⟨F, M, ds, Q, rp, rl, ⟨d, xs, e, e1, q⟩, k⟩
  subst e
  obtain ⟨v, rfl, r1⟩ := rp1 rp
  obtain ⟨p, ws, rfl, h1, ra⟩ := seqOf_rp rl r1 e1
  exact call_list_of pins s σ H _ us Q0 I r ⟨p, ws, rfl, h1, fun l hl => newL_ok rl ra q k l hl⟩
/-- isinstance(x, a built-in class) -/
def tyD (M : Mp) : DL.D → Option String
  | .non => some "NoneType"
  | .bl _ => some "bool"
  | .int _ => some "int"
  | .str _ => some "str"
  | .tup _ => some "tuple"
  | .lst _ => some "list"
  | .slst _ => some "list"
  | .dct _ _ => some "dict"
  | .exc _ _ => none
  | .ref a => match mol (M a) with
    | some _ => some "list"
    | none => none
theorem tyD_x {K : PySem.W.Frag} {Y : KJ K} {F : Hp} {M : Mp} {H : Hp} {v : V} {d : DL.D} {T : String} (R : Rel Y F M H) (r : Rp K F v d) (h : tyD M d = some T) : TyX K H v (.type T) := by
  cases r with
  | non => cases h; exact .base .non
  | bl b => cases h; exact .base (.bl b)
  | int b => cases h; exact .base (.int b)
  | str b => cases h; exact .base (.str b)
  | tup sq ra =>
    cases h
    rcases Same.tseq R.sub sq with (e | ⟨o, e⟩) | ⟨o, its, n, e, c, _⟩
    · exact .base (.tup e)
    · exact .fTuple e
    · exact .kTuple e c
  | lst e ra => cases h; exact .base (.lst (R.sub _ _ e))
  | slst sq ra =>
    cases h
    rcases R.sub.seq sq with (e | ⟨o, e⟩) | ⟨o, its, n, e, c, _⟩
    · exact .base (.lst e)
    · exact .base (.frz e)
    · exact .kList e c
  | dct e l ra => cases h; exact .base (.dK (R.sub _ _ e))
  | exc _ _ _ _ => cases h
  | ref a =>
    have h' : (match mol (M a) with | some _ => some "list" | none => none) = some T := h
    split at h'
    · rename_i xs e
      cases h'
      obtain ⟨vs, h1, _⟩ := R.lst (mol_some e)
      exact .base (.lst h1)
    · cases h'
end
end DL

/-! DL5: isinstance, what is walked, methods. -/
namespace DL
open PySem PySem.Spec L2
open PyProof.Rows hiding St

/-! ### isinstance -/
def isiB (S T : String) : Bool := S == T || (S == "bool" && T == "int")
def dIsi (T : String) (t : DTE) : DTE := fun ρ M Q => t ρ M fun d M1 => ∃ S, tyD M1 d = some S ∧ Q (.bl (isiB S T)) M1
theorem tyD_mem {M : Mp} {d : DL.D} {S : String} (h : tyD M d = some S) : S = "NoneType" ∨ S = "bool" ∨ S = "int" ∨ S = "str" ∨ S = "tuple" ∨ S = "list" ∨ S = "dict" := by
  cases d with
  | ref a =>
    have h' : (match mol (M a) with | some _ => some "list" | none => none) = some S := h
    split at h'
    · cases h'; simp
    · cases h'
  | exc a b => cases h
  | _ => cases h; simp
theorem kit_all {T : String} (hT : T = "bool" ∨ T = "int" ∨ T = "str" ∨ T = "tuple" ∨ T = "list" ∨ T = "dict") {S : String} (hS : S = "NoneType" ∨ S = "bool" ∨ S = "int" ∨ S = "str" ∨ S = "tuple" ∨ S = "list" ∨ S = "dict") : L2.kitB S T = some (isiB S T) := by
  rcases hT with rfl | rfl | rfl | rfl | rfl | rfl <;> rcases hS with rfl | rfl | rfl | rfl | rfl | rfl | rfl <;> decide +kernel
section
variable {X : Cx} {Y : KJ X.K} {pos p p' : Pos} {e : Expr} {t : DTE}
theorem de_isi {T : String} {y : Str} (m1 : X.mg "isinstance" = none) (m2 : X.mg y = none) (he : DE X Y e t) (hT : T = "bool" ∨ T = "int" ∨ T = "str" ∨ T = "tuple" ∨ T = "list" ∨ T = "dict" := by simp) (hv : bootBuiltins y = some (.type T) := by decide +kernel)
    (hg : Gl X "isinstance" := by rfl) (hg2 : Gl X y := by rfl) (hn : y ≠ "__name__" := by decide) (hd : (y == ("__debug__" : Str)) = false := by decide)
    (s1 : starEach [e, .Name y p'] X.env = (false, eval e X.env) :: starEach [.Name y p'] X.env := by rfl) (s2 : starEach [.Name y p'] X.env = (false, eval (.Name y p') X.env) :: starEach [] X.env := by rfl)
    (hpl : (backTo pos (starEach [.Name y p'] X.env)).any (·.1) = false := by rfl) : DE X Y (.Call (.Name "isinstance" p) [e, .Name y p'] [] pos) (dIsi T t) := by
  have h2 : PE X (.Name y p') (tC (.ty T)) := pe_bltn hg2 m2 hv rfl hn hd
  refine PE.weak (pe_callB call_isi hg m1 (by decide +kernel) (pa_cons he (pa_cons h2 pa_nil s2) s1) (by decide) (by decide) s1 hpl) ?_
  rintro σ H Q0 ⟨F, M, ρ, Q, rs, rl, q, k⟩
  refine ⟨F, M, ρ, _, rs, rl, q, fun v d F1 M1 H1 s1 rp ⟨S, eS, q1⟩ => ?_⟩
  exact ⟨v, .ty T, _, .type T, _, rfl, .ty T, tyD_x s1.rel rp eS, kit_ty (kit_all hT (tyD_mem eS)), k _ _ F1 M1 H1 s1 (.bl _) q1⟩
end

/-! ### what is walked -/
section
variable {X : Cx} {Y : KJ X.K} {pos p : Pos} {tg e : Expr} {t : DTE}
theorem PI.or {u v : TI} (h1 : PI X tg e u) (h2 : PI X tg e v) : PI X tg e (fun σ H R => u σ H R ∨ v σ H R) :=
  ⟨fun pins s σ H R I q => q.elim (fun q => h1.run pins s σ H R I q) fun q => h2.run pins s σ H R I q⟩
/-- the signs of a text -/
def signs (x : Str) : List DL.D := x.cps.toList.map fun c => .str ⟨#[c]⟩
theorem jw_list {K : PySem.W.Frag} {Y : KJ K} {F : Hp} {a : Addr} {ds : List DL.D} {G : Mp → Prop} (st : ∀ F1 M1 H1, Same F F1 → Rel Y F1 M1 H1 → G M1 → ∃ xs, SqL K H1 a xs ∧ RpAll K F1 xs ds) : JW Y F (Itl K a) ds G := by
  refine ⟨fun F1 M1 H1 s r g => ?_⟩
  obtain ⟨xs, sq, ra⟩ := st F1 M1 H1 s r g
  have W := walk_list (K := K) (a := a) (xs := xs)
  refine ⟨by rw [← ra.length]; exact W.stops H1 sq, fun i d hi => ?_⟩
  obtain ⟨v, hv, rp⟩ := ra.get hi
  have hl : i < xs.length := (List.getElem?_eq_some_iff.mp hv).1
  refine ⟨W.goes i H1 hl sq, fun x H2 y => ?_⟩
  obtain ⟨e, y2⟩ := W.yields i H1 x H2 hl sq y
  rw [hv] at y2
  cases y2
  rw [e]
  exact ⟨F1, Stp.refl r, rp⟩
theorem jw_tup {K : PySem.W.Frag} {Y : KJ K} {F : Hp} {a : Addr} {xs : List V} {ds : List DL.D} (ra : RpAll K F xs ds) (sq : SqT K F a xs) : JW Y F (Itt K a) ds (fun _ => True) := by
  refine ⟨fun F1 M1 H1 s r g => ?_⟩
  have sq' := Same.tseq (s.trans r.sub) sq
  have W := walk_tup (K := K) (a := a) (xs := xs)
  refine ⟨by rw [← ra.length]; exact W.stops H1 sq', fun i d hi => ?_⟩
  obtain ⟨v, hv, rp⟩ := ra.get hi
  have hl : i < xs.length := (List.getElem?_eq_some_iff.mp hv).1
  refine ⟨W.goes i H1 hl sq', fun x H2 y => ?_⟩
  obtain ⟨e, y2⟩ := W.yields i H1 x H2 hl sq' y
  rw [hv] at y2
  cases y2
  rw [e]
  exact ⟨F1, Stp.refl r, rp.mono s⟩
theorem jw_str {K : PySem.W.Frag} {Y : KJ K} {F : Hp} {x : Str} : JW Y F (Its x) (signs x) (fun _ => True) :=
  ⟨fun F1 M1 H1 s r g => ⟨by show x.cps.size ≤ (signs x).length; simp [signs], fun i d hi => by
    unfold signs at hi
    rw [List.getElem?_map, Array.getElem?_toList] at hi
    cases e : x.cps[i]? with
    | none => rw [e] at hi; cases hi
    | some c =>
      rw [e] at hi
      cases hi
      refine ⟨(Array.getElem?_eq_some_iff.mp e).1, fun v H2 ⟨e2, c', h', hv⟩ => ?_⟩
      rw [e] at h'
      cases h'
      subst e2 hv
      exact ⟨F1, Stp.refl r, .str _⟩⟩⟩
/-- over a text, a tuple, a list -/
def dIt (t : DTE) : DTI := fun ρ M R => t ρ M fun d M1 => match d with
  | .str x => R (signs x) (fun _ => True) M1
  | .tup xs => R xs (fun _ => True) M1
  | .lst xs => R xs (fun _ => True) M1
  | .slst xs => R xs (fun _ => True) M1
  | .ref a => ∃ xs, M1 a = some (.lst xs) ∧ R xs (fun M => M a = some (.lst xs)) M1
  | _ => False
/-- one walk for each kind of a value that is walked -/
theorem pi_any {te : TE} (he : PE X e te) : PI X tg e (fun σ H R => te σ H fun v H1 => (∃ x, v = .str x ∧ R (Its x) H1) ∨ (∃ a, v = .ref a ∧ (∃ xs, SqT X.K H1 a xs) ∧ R (Itt X.K a) H1) ∨ (∃ a, v = .ref a ∧ (∃ xs, SqL X.K H1 a xs) ∧ R (Itl X.K a) H1)) := by
  constructor
  intro pins s σ H R I q
  refine thn (he.run pins s σ H _ I q) ?_
  rintro u s1 ⟨v, H1, I1, r1, ⟨x, rfl, q1⟩ | ⟨a, rfl, ⟨xs, hq⟩, q1⟩ | ⟨a, rfl, ⟨xs, hq⟩, q1⟩⟩
  · obtain ⟨t, rfl⟩ := r1
    cases ha : x.cps.all (· < 128) with
    | false => exact wpAny_pyIter_wide ha (pi_one (tk := s1.toks) I1 _ (turn_str _ x t "str_iterator" (.inr rfl)) ⟨_, Heap.get?_push_size _ rfl, rfl, rfl⟩ q1)
    | true => exact wpAny_pyIter_ascii ha (pi_one (tk := s1.toks) I1 _ (turn_str _ x t "str_ascii_iterator" (.inl rfl)) ⟨_, Heap.get?_push_size _ rfl, rfl, rfl⟩ q1)
  · cases r1
    obtain ⟨its, rv, p, hz⟩ := I1.tuple hq
    exact wpAny_pyIter_tuple (show s1.heap.IsTuple a its.toArray from p) (pi_one (tk := s1.toks) I1 _ (turn_tuple a _) ⟨_, Heap.get?_push_size _ rfl, rfl, rfl⟩ q1)
  · cases r1
    obtain ⟨its, rv, p, hz⟩ := I1.list hq
    exact wpAny_pyIter_list p.isList (pi_one (tk := s1.toks) I1 _ (turn_list a _) ⟨_, Heap.get?_push_size _ rfl, rfl, rfl⟩ q1)
theorem di_it (he : DE X Y e t) : DI X Y tg e (dIt t) := by
  refine PI.weak (pi_any he) ?_
  rintro σ H R0 ⟨F, M, ρ, R, rs, rl, q, k⟩
  refine ⟨F, M, ρ, _, rs, rl, q, fun v d F1 M1 H1 s1 rp q1 => ?_⟩
  cases d with
  | str x =>
    cases rp
    exact .inl ⟨x, rfl, k _ _ _ F1 M1 H1 s1 jw_str q1⟩
  | tup xs =>
    cases rp with
    | tup sq ra => exact .inr (.inl ⟨_, rfl, ⟨_, Same.tseq s1.rel.sub sq⟩, k _ _ _ F1 M1 H1 s1 (jw_tup ra sq) q1⟩)
  | lst xs =>
    cases rp with
    | lst e1 ra => exact .inr (.inr ⟨_, rfl, ⟨_, SqL.of (s1.rel.sub _ _ e1)⟩, k _ _ _ F1 M1 H1 s1 (jw_list fun F2 M2 H2 s r _ => ⟨_, SqL.of (r.sub _ _ (s _ _ e1)), ra.mono s⟩) q1⟩)
  | slst xs =>
    cases rp with
    | slst e1 ra => exact .inr (.inr ⟨_, rfl, ⟨_, s1.rel.sub.seq e1⟩, k _ _ _ F1 M1 H1 s1 (jw_list fun F2 M2 H2 s r _ => ⟨_, (s.trans r.sub).seq e1, ra.mono s⟩) q1⟩)
  | ref a =>
    obtain ⟨xs, hm, q1⟩ := q1
    cases rp
    obtain ⟨vs, h1, ra⟩ := s1.rel.lst hm
    exact .inr (.inr ⟨_, rfl, ⟨_, SqL.of h1⟩, k _ _ _ F1 M1 H1 s1 (jw_list fun F2 M2 H2 s r g => let ⟨ws, h2, rb⟩ := r.lst g; ⟨ws, SqL.of h2, rb⟩) q1⟩)
  | non => exact q1.elim
  | dct a b => exact q1.elim
  | exc a b => exact q1.elim
  | bl b => exact q1.elim
  | int i => exact q1.elim
/-- over range(n), range(a, b) -/
def rgD (lo : Int) (n : Nat) : List DL.D := (List.range n).map fun i => .int (lo + (i : Nat))
theorem jw_range {K : PySem.W.Frag} {Y : KJ K} {F : Hp} {lo : Int} {n : Nat} : JW Y F (Itr lo n) (rgD lo n) (fun _ => True) :=
  ⟨fun F1 M1 H1 s r g => ⟨by show n ≤ (rgD lo n).length; simp [rgD], fun i d hi => by
    unfold rgD at hi
    rw [List.getElem?_map] at hi
    by_cases h : i < n
    · rw [List.getElem?_range h] at hi
      cases hi
      refine ⟨h, fun v H2 ⟨e2, hv⟩ => ?_⟩
      subst e2 hv
      exact ⟨F1, Stp.refl r, .int _⟩
    · rw [List.getElem?_eq_none (by simpa using h)] at hi
      cases hi⟩⟩
def dRange1 (t : DTE) : DTI := fun ρ M R => t ρ M fun d M1 => ∃ j, d = .int j ∧ -(2 ^ 62) ≤ j ∧ j < 2 ^ 62 ∧ R (rgD 0 j.toNat) (fun _ => True) M1
def dRange2 (t u : DTE) : DTI := fun ρ M R => t ρ M fun d M1 => u ρ M1 fun d' M2 => ∃ i j, d = .int i ∧ d' = .int j ∧ (-(2 ^ 62) ≤ i ∧ i < 2 ^ 62 ∧ -(2 ^ 62) ≤ j ∧ j < 2 ^ 62) ∧ R (rgD i (j - i).toNat) (fun _ => True) M2
theorem di_range1 {u : DTE} (hm : X.mg "range" = none) (he : DE X Y e u) (hg : Gl X "range" := by rfl) (hs : starEach [e] X.env = [(false, eval e X.env)] := by rfl) : DI X Y tg (.Call (.Name "range" p) [e] [] pos) (dRange1 u) := by
  refine PI.weak (pi_range1 hg hm (pa_cons he pa_nil hs) hs) ?_
  rintro σ H R0 ⟨F, M, ρ, R, rs, rl, q, k⟩
  refine ⟨F, M, ρ, _, rs, rl, q, fun v d F1 M1 H1 s1 rp ⟨j, ed, h1, h2, q1⟩ => ?_⟩
  subst ed
  cases rp
  exact ⟨j, rfl, h1, h2, k _ _ _ F1 M1 H1 s1 jw_range q1⟩
theorem di_range2 {e2 : Expr} {u u2 : DTE} (hm : X.mg "range" = none) (he : DE X Y e u) (he2 : DE X Y e2 u2) (hg : Gl X "range" := by rfl) (hs : starEach [e, e2] X.env = [(false, eval e X.env), (false, eval e2 X.env)] := by rfl) (hs2 : starEach [e2] X.env = [(false, eval e2 X.env)] := by rfl) :
    DI X Y tg (.Call (.Name "range" p) [e, e2] [] pos) (dRange2 u u2) := by
  refine PI.weak (pi_range2 hg hm (pa_cons he (pa_cons he2 pa_nil hs2) (by rw [hs, hs2])) hs hs2) ?_
  rintro σ H R0 ⟨F, M, ρ, R, rs, rl, q, k⟩
  refine ⟨F, M, ρ, _, rs, rl, q, fun v d F1 M1 H1 s1 rp q1 => ?_⟩
  refine ⟨F1, M1, ρ, _, rs.mono s1.same, s1.rel, q1, fun v2 d2 F2 M2 H2 s2 rp2 ⟨i, j, e1, e2, hb, q2⟩ => ?_⟩
  subst e1 e2
  cases rp
  cases rp2
  exact ⟨i, j, rfl, hb, k _ _ _ F2 M2 H2 (s1.trans s2) jw_range q2⟩
end
end DL

/-! DL6: stores by place, methods of lists and texts, repr, list(range), zip. -/
namespace DL
open PySem PySem.Spec L2
open PyProof.Rows hiding St

/-! ### xs[i] = v -/
def rSetD : DTSet := fun o i v M Q => ∃ a xs k j, o = .ref a ∧ i = .int k ∧ M a = some (.lst xs) ∧ ixN xs.length k = some j ∧ Q (mu M a (.lst (xs.set j v)))
section
variable {X : Cx} {Y : KJ X.K} {pos : Pos}
theorem set_lstD : PSet X (canSet Y rSetD) := by
  refine PSet.weak set_list ?_
  rintro o i v H Q0 ⟨F, M, od, id, vd, Q, r1, r2, r3, rl, ⟨a, xs, k, j, e1, e2, hm, hj, q⟩, kk⟩
  subst e1 e2
  cases r1
  cases r2
  obtain ⟨vs, h1, ra⟩ := rl.lst hm
  exact ⟨a, vs, k, j, rfl, rfl, h1, by rw [ra.length]; exact hj, kk F _ _ (rl.set hm (xs := (vs.set j v)) (ds := (xs.set j vd)) (ra.set r3 j)) q⟩

/-! ### methods of lists -/
def canMt {K : PySem.W.Frag} (Y : KJ K) (r : DL.D → List DL.D → Mp → DK → Prop) : V → List V → Hp → VK → Prop := fun x vs H Q0 => ∃ F M d ds Q, Rp K F x d ∧ RpAll K F vs ds ∧ Rel Y F M H ∧ r d ds M Q ∧
  ∀ v z F' M' H', Stp Y F M H F' M' H' → Rp K F' v z → Q z M' → Q0 v H'
variable {o e : Expr} {es : List Expr} {to : DTE} {ta : DTA} {name : Str} {apos cpos : Pos} {id : String} {r : DL.D → List DL.D → Mp → DK → Prop}
def dBM (r : DL.D → List DL.D → Mp → DK → Prop) (to : DTE) (ta : DTA) : DTE := fun ρ M Q => to ρ M fun x M1 => (lstOf M1 x).isSome = true ∧ ta ρ M1 fun ds M2 => r x ds M2 Q
theorem ty_list {K : PySem.W.Frag} {Y : KJ K} {F : Hp} {M : Mp} {H : Hp} {v : V} {d : DL.D} (R : Rel Y F M H) (rp : Rp K F v d) (h : (lstOf M d).isSome = true) : tyV K "list" v H := by
  obtain ⟨ds, e⟩ := Option.isSome_iff_exists.mp h
  obtain ⟨a, xs, rfl, h1, _⟩ := lstOf_rp R rp e
  exact .inl ⟨rfl, _, h1⟩
theorem de_bm (slot : Slot "list" name id) (hty : typeOf (.builtin id) = pure (.type "method_descriptor")) (hm : MtR X id (canMt Y r)) (ho : DE X Y o to) (ha : DA X Y (e :: es) ta)
    (hbase : attributeBase o name X.env (eval o X.env) = eval o X.env := by rfl)
    (hfew : ((backTo cpos (starEach (e :: es) X.env)).all (fun x => !x.1) && (backToKw cpos (keywordEach [] X.env)).all (fun x => x.1.isSome)
      && decide ((e :: es).length + ([] : List Keyword).length + (if ([] : List Keyword).isEmpty then 0 else 1) < 30)) = true := by rfl)
    (hline : (apos.endLine == cpos.line) = true := by rfl) (hs : starEach (e :: es) X.env = (false, eval e X.env) :: starEach es X.env := by rfl) (hplain : (backTo cpos (starEach es X.env)).any (·.1) = false := by rfl) :
    DE X Y (.Call (.Attribute o name apos) (e :: es) [] cpos) (dBM r to ta) := by
  refine PE.weak (pe_bm PySem.F.plainAttrs_list slot hty hm ho ha hbase hfew hline hs hplain) ?_
  rintro σ H Q0 ⟨F, M, ρ, Q, rs, rl, q, k⟩
  refine ⟨F, M, ρ, _, rs, rl, q, fun v d F1 M1 H1 s1 rp1 ⟨hl, q1⟩ => ⟨ty_list s1.rel rp1 hl, ?_⟩⟩
  exact ⟨F1, M1, ρ, _, rs.mono s1.same, s1.rel, q1, fun vs ds F2 M2 H2 s2 rp2 q2 => ⟨F2, M2, d, ds, Q, rp1.mono s2.same, rp2, s2.rel, q2, fun v z F3 M3 H3 s3 => k v z F3 M3 H3 ((s1.trans s2).trans s3)⟩⟩
def dBM0 (r : DL.D → List DL.D → Mp → DK → Prop) (to : DTE) : DTE := fun ρ M Q => to ρ M fun x M1 => (lstOf M1 x).isSome = true ∧ r x [] M1 Q
theorem de_bm0 (slot : Slot "list" name id) (hty : typeOf (.builtin id) = pure (.type "method_descriptor")) (hm : MtR X id (canMt Y r)) (ho : DE X Y o to)
    (hbase : attributeBase o name X.env (eval o X.env) = eval o X.env := by rfl) (hline : (apos.endLine == cpos.line) = true := by rfl) : DE X Y (.Call (.Attribute o name apos) [] [] cpos) (dBM0 r to) := by
  refine PE.weak (pe_bm0 PySem.F.plainAttrs_list slot hty hm ho hbase hline) ?_
  rintro σ H Q0 ⟨F, M, ρ, Q, rs, rl, q, k⟩
  exact ⟨F, M, ρ, _, rs, rl, q, fun v d F1 M1 H1 s1 rp1 ⟨hl, q1⟩ => ⟨ty_list s1.rel rp1 hl, F1, M1, d, [], Q, rp1, .nil, s1.rel, q1, fun v z F3 M3 H3 s3 => k v z F3 M3 H3 (s1.trans s3)⟩⟩
theorem of_MtM {id : String} {r : V → List V → Hp → VK → Prop} (h : MtM X id r) : MtR X id r := h
def rAppD : DL.D → List DL.D → Mp → DK → Prop := fun x ds M Q => ∃ a y xs, x = .ref a ∧ ds = [y] ∧ M a = some (.lst xs) ∧ xs.length < sizeLine ∧ Q .non (mu M a (.lst (xs ++ [y])))
theorem md_append : MtR X "list.append" (canMt Y rAppD) := by
  intro pins s σ H x vs v us Q0 I rx rv ⟨F, M, d, ds, Q, r1, r2, rl, ⟨a, y, xs, e1, e2, hm, hz, q⟩, k⟩
  subst e1 e2
  cases r1
  obtain ⟨vy, rfl, ry⟩ := rp1 r2
  obtain ⟨ws, h1, ra⟩ := rl.lst hm
  exact mt_append pins s σ H _ _ v us Q0 I rx rv ⟨a, ws, vy, rfl, rfl, h1, by rw [ra.length]; exact hz, k _ .non F _ _ (rl.set hm (xs := (ws ++ [vy])) (ds := (xs ++ [y])) (ra.append (.cons ry .nil))) .non q⟩
def dAppend (to te : DTE) : DTE := dBM rAppD to (dCons te dNil)
theorem de_append {te : DTE} (ho : DE X Y o to) (he : DE X Y e te) (hs : starEach [e] X.env = (false, eval e X.env) :: starEach [] X.env := by rfl) (hbase : attributeBase o "append" X.env (eval o X.env) = eval o X.env := by rfl) (hline : (apos.endLine == cpos.line) = true := by rfl)
    (hfew : ((backTo cpos (starEach [e] X.env)).all (fun x => !x.1) && (backToKw cpos (keywordEach [] X.env)).all (fun x => x.1.isSome)
      && decide (([e] : List Expr).length + ([] : List Keyword).length + (if ([] : List Keyword).isEmpty then 0 else 1) < 30)) = true := by rfl) :
    DE X Y (.Call (.Attribute o "append" apos) [e] [] cpos) (dAppend to te) :=
  de_bm PySem.F.slot_list_append PySem.F.type_list_append md_append ho (da_cons he da_nil hs) hbase hfew hline hs rfl
def rExtD : DL.D → List DL.D → Mp → DK → Prop := fun x ds M Q => ∃ a y xs ys, x = .ref a ∧ ds = [y] ∧ M a = some (.lst xs) ∧ lstIn M y = some ys ∧ xs.length + ys.length ≤ sizeLine ∧ Q .non (mu M a (.lst (xs ++ ys)))
theorem md_extend : MtR X "list.extend" (canMt Y rExtD) := by
  intro pins s σ H x vs v us Q0 I rx rv ⟨F, M, d, ds, Q, r1, r2, rl, ⟨a, y, xs, ys, e1, e2, hm, hy, hz, q⟩, k⟩
  subst e1 e2
  cases r1
  obtain ⟨vy, rfl, ry⟩ := rp1 r2
  obtain ⟨ws, h1, ra⟩ := rl.lst hm
  obtain ⟨b, zs, rfl, h2, rb⟩ := lstIn_rp rl ry hy
  exact mt_extend pins s σ H _ _ v us Q0 I rx rv ⟨a, b, ws, zs, rfl, rfl, h1, h2, by rw [ra.length, rb.length]; exact hz, k _ .non F _ _ (rl.set hm (xs := (ws ++ zs)) (ds := (xs ++ ys)) (ra.append rb)) .non q⟩
def dExtend (to te : DTE) : DTE := dBM rExtD to (dCons te dNil)
theorem de_extend {te : DTE} (ho : DE X Y o to) (he : DE X Y e te) (hs : starEach [e] X.env = (false, eval e X.env) :: starEach [] X.env := by rfl) (hbase : attributeBase o "extend" X.env (eval o X.env) = eval o X.env := by rfl) (hline : (apos.endLine == cpos.line) = true := by rfl)
    (hfew : ((backTo cpos (starEach [e] X.env)).all (fun x => !x.1) && (backToKw cpos (keywordEach [] X.env)).all (fun x => x.1.isSome)
      && decide (([e] : List Expr).length + ([] : List Keyword).length + (if ([] : List Keyword).isEmpty then 0 else 1) < 30)) = true := by rfl) :
    DE X Y (.Call (.Attribute o "extend" apos) [e] [] cpos) (dExtend to te) :=
  de_bm PySem.F.slot_list_extend PySem.F.type_list_extend md_extend ho (da_cons he da_nil hs) hbase hfew hline hs rfl
def rPopD : DL.D → List DL.D → Mp → DK → Prop := fun x ds M Q => ∃ a xs y, x = .ref a ∧ ds = [] ∧ M a = some (.lst xs) ∧ xs[xs.length - 1]? = some y ∧ Q y (mu M a (.lst xs.dropLast))
theorem md_pop : MtR X "list.pop" (canMt Y rPopD) := by
  intro pins s σ H x vs v us Q0 I rx rv ⟨F, M, d, ds, Q, r1, r2, rl, ⟨a, xs, y, e1, e2, hm, hy, q⟩, k⟩
  subst e1 e2
  cases r1
  cases r2
  obtain ⟨ws, h1, ra⟩ := rl.lst hm
  obtain ⟨vy, h2, ry⟩ := ra.get hy
  have st := rl.set hm (xs := ws.dropLast) (ds := xs.dropLast) ra.dropLast
  exact mt_pop pins s σ H _ _ v us Q0 I rx rv ⟨a, ws, vy, rfl, rfl, h1, by rw [ra.length]; exact h2, k _ y F _ _ st ry q⟩
def dPop (to : DTE) : DTE := dBM0 rPopD to
theorem de_pop (ho : DE X Y o to) (hbase : attributeBase o "pop" X.env (eval o X.env) = eval o X.env := by rfl) (hline : (apos.endLine == cpos.line) = true := by rfl) : DE X Y (.Call (.Attribute o "pop" apos) [] [] cpos) (dPop to) :=
  de_bm0 PySem.F.slot_list_pop PySem.F.type_list_pop md_pop ho hbase hline
def rPopAtD : DL.D → List DL.D → Mp → DK → Prop := fun x ds M Q => ∃ a xs i j y, x = .ref a ∧ ds = [.int i] ∧ M a = some (.lst xs) ∧ ixN xs.length i = some j ∧ -(2 ^ 62) < i ∧ i < 2 ^ 62 ∧ xs[j]? = some y ∧ Q y (mu M a (.lst (xs.eraseIdx j)))
theorem md_popAt : MtR X "list.pop" (canMt Y rPopAtD) := by
  intro pins s σ H x vs v us Q0 I rx rv ⟨F, M, d, ds, Q, r1, r2, rl, ⟨a, xs, i, j, y, e1, e2, hm, hj, h3, h4, hy, q⟩, k⟩
  subst e1 e2
  cases r1
  obtain ⟨vi, rfl, ri⟩ := rp1 r2
  cases ri
  obtain ⟨ws, h1, ra⟩ := rl.lst hm
  obtain ⟨vy, h2, ry⟩ := ra.get hy
  have st := rl.set hm (xs := (ws.eraseIdx j)) (ds := (xs.eraseIdx j)) (ra.eraseIdx j)
  have hj' := ixN_seq hj
  exact mt_popAt pins s σ H _ _ v us Q0 I rx rv ⟨a, ws, i, j, vy, rfl, rfl, h1, by omega, by omega, by rw [ra.length]; exact hj'.1, h2, k _ y F _ _ st ry q⟩
def dPopAt (to te : DTE) : DTE := dBM rPopAtD to (dCons te dNil)
theorem de_popAt {te : DTE} (ho : DE X Y o to) (he : DE X Y e te) (hs : starEach [e] X.env = (false, eval e X.env) :: starEach [] X.env := by rfl) (hbase : attributeBase o "pop" X.env (eval o X.env) = eval o X.env := by rfl) (hline : (apos.endLine == cpos.line) = true := by rfl)
    (hfew : ((backTo cpos (starEach [e] X.env)).all (fun x => !x.1) && (backToKw cpos (keywordEach [] X.env)).all (fun x => x.1.isSome)
      && decide (([e] : List Expr).length + ([] : List Keyword).length + (if ([] : List Keyword).isEmpty then 0 else 1) < 30)) = true := by rfl) :
    DE X Y (.Call (.Attribute o "pop" apos) [e] [] cpos) (dPopAt to te) :=
  de_bm PySem.F.slot_list_pop PySem.F.type_list_pop md_popAt ho (da_cons he da_nil hs) hbase hfew hline hs rfl

/-! ### texts' methods, -x, ** -/
def dUpper (to : DTE) : DTE := fun ρ M Q => to ρ M fun x M1 => ∃ a, x = .str a ∧ a.length ≤ 5592405 ∧ Q (.str (Txt.upper a)) M1
theorem de_upper (ho : DE X Y o to) (hbase : attributeBase o "upper" X.env (eval o X.env) = eval o X.env := by rfl) (hline : (apos.endLine == cpos.line) = true := by rfl) : DE X Y (.Call (.Attribute o "upper" apos) [] [] cpos) (dUpper to) := by
  refine PE.weak (pe_upper ho hbase hline) ?_
  rintro σ H Q0 ⟨F, M, ρ, Q, rs, rl, q, k⟩
  refine ⟨F, M, ρ, _, rs, rl, q, fun v d F1 M1 H1 s1 rp1 ⟨a, e1, hl, q1⟩ => ?_⟩
  subst e1
  cases rp1
  exact ⟨⟨a, rfl⟩, a, rfl, rfl, hl, k _ _ F1 M1 H1 s1 (.str _) q1⟩
def dJoin (to te : DTE) : DTE := fun ρ M Q => to ρ M fun x M1 => ∃ a, x = .str a ∧ te ρ M1 fun y M2 => ∃ ss : List Str, seqOf M2 y = some (ss.map D.str) ∧ (ss.map (·.length)).sum + ss.length * a.length ≤ 16777216 ∧ Q (.str (Txt.join a ss)) M2
theorem de_join {te : DTE} (ho : DE X Y o to) (he : DE X Y e te) (hs : starEach [e] X.env = [(false, eval e X.env)] := by rfl) (hbase : attributeBase o "join" X.env (eval o X.env) = eval o X.env := by rfl) (hline : (apos.endLine == cpos.line) = true := by rfl) :
    DE X Y (.Call (.Attribute o "join" apos) [e] [] cpos) (dJoin to te) := by
  refine PE.weak (pe_join ho he hs hbase hline) ?_
  rintro σ H Q0 ⟨F, M, ρ, Q, rs, rl, q, k⟩
  refine ⟨F, M, ρ, _, rs, rl, q, fun v d F1 M1 H1 s1 rp1 ⟨a, e1, q1⟩ => ?_⟩
  subst e1
  cases rp1
  refine ⟨⟨a, rfl⟩, F1, M1, ρ, _, rs.mono s1.same, s1.rel, q1, fun v2 d2 F2 M2 H2 s2 rp2 ⟨ss, e2, hz, q2⟩ => ?_⟩
  obtain ⟨p, ws, rfl, h1, ra⟩ := seqOf_rp s2.rel rp2 e2
  rw [rp_strs ra] at h1
  exact ⟨a, p, ss, rfl, rfl, h1, hz, k _ _ F2 M2 H2 (s1.trans s2) (.str _) q2⟩
def dNeg (te : DTE) : DTE := fun ρ M Q => te ρ M fun x M1 => ∃ i, x = .int i ∧ Q (.int (-i)) M1
theorem de_neg {te : DTE} (he : DE X Y e te) : DE X Y (.UnaryOp .USub e pos) (dNeg te) := by
  refine PE.weak (pe_un un_neg he) ?_
  rintro σ H Q0 ⟨F, M, ρ, Q, rs, rl, q, k⟩
  refine ⟨F, M, ρ, _, rs, rl, q, fun v d F1 M1 H1 s1 rp1 ⟨i, e1, q1⟩ => ?_⟩
  subst e1
  cases rp1
  exact ⟨i, rfl, k _ _ F1 M1 H1 s1 (.int _) q1⟩
def rPowD : RD2 := fun x y M Q => ∃ i j, x = .int i ∧ y = .int j ∧ ((0 ≤ j ∧ j ≤ 1000000 ∧ i.natAbs < 2 ^ 64) ∨ (0 ≤ j ∧ (Builtin.Int.intBits i : Int) * j ≤ 2 ^ 27)) ∧ Q (.int (i ^ j.toNat)) M
theorem od_pows : OpD X Y (binaryOp .Pow) rPowD := by
  intro pins s σ H x y v u Q0 I rx ry ⟨F, M, d, e, Q, r1, r2, rl, ⟨i, j, e1, e2, c, q⟩, k⟩
  rcases c with c | c
  · exact od_pow pins s σ H x y v u Q0 I rx ry ⟨F, M, d, e, Q, r1, r2, rl, ⟨i, j, e1, e2, c, q⟩, k⟩
  · exact od_powW pins s σ H x y v u Q0 I rx ry ⟨F, M, d, e, Q, r1, r2, rl, ⟨i, j, e1, e2, c, q⟩, k⟩

/-! ### repr -/
mutual
theorem py_noDict : ∀ (d : DL.D) (p : PyData), d.py = some p → p.hasDict = false
  | .non, _, h => by simp only [D.py] at h; cases h; rfl
  | .bl b, _, h => by simp only [D.py] at h; cases h; rfl
  | .int i, _, h => by simp only [D.py] at h; cases h; rfl
  | .str x, _, h => by simp only [D.py] at h; cases h; rfl
  | .ref a, _, h => by simp only [D.py] at h; cases h
  | .tup xs, _, h => by
    simp only [D.py] at h
    split at h
    · rename_i ps e; cases h; simp only [PyData.hasDict]; exact pyAll_noDict xs ps e
    · cases h
  | .lst xs, _, h => by
    simp only [D.py] at h
    split at h
    · rename_i ps e; cases h; simp only [PyData.hasDict]; exact pyAll_noDict xs ps e
    · cases h
  | .slst xs, _, h => by
    simp only [D.py] at h
    split at h
    · rename_i ps e; cases h; simp only [PyData.hasDict]; exact pyAll_noDict xs ps e
    · cases h
theorem pyAll_noDict : ∀ (ds : List DL.D) (ps : List PyData), pyAll ds = some ps → PyData.hasDictAll ps = false
  | [], _, h => by simp only [pyAll] at h; cases h; rfl
  | d :: ds, _, h => by
    simp only [pyAll] at h
    split at h
    · rename_i p ps e1 e2
      cases h
      simp only [PyData.hasDictAll, py_noDict d p e1, pyAll_noDict ds ps e2, Bool.or_self]
    · cases h
end
theorem pyM_noDict {M : Mp} {d : DL.D} {p : PyData} (h : pyM M d = some p) : p.hasDict = false := by
  unfold pyM at h
  split at h
  · split at h
    · split at h
      · rename_i ps e
        cases h
        simp only [PyData.hasDict]
        exact pyAll_noDict _ _ e
      · cases h
    · cases h
  · exact py_noDict _ _ h
def rReprD : RDL := fun ds M Q => ∃ d p, ds = [d] ∧ pyM M d = some p ∧ p.showable = true ∧ p.depth ≤ 62 ∧ p.shown.length ≤ sizeLine ∧ Q (.str p.shown) M
theorem cd_repr {n : Nat} (hr : Room n X.A) (gu : X.A.guards = some []) : CallD X Y (.builtin "repr") rReprD := by
  intro pins s σ H vs us Q0 I r ⟨F, M, ds, Q, rp, rl, ⟨d, p, e, e1, h1, h2, h3, q⟩, k⟩
  subst e
  obtain ⟨v, rfl, r1⟩ := rp1 rp
  obtain ⟨u, rfl, ru⟩ := vals1 r
  obtain ⟨as, rd⟩ := Dp.reads I p v u (pyM_dp rl r1 e1) ru
  have nd := pyM_noDict e1
  have fin : ∀ (h' : Heap) (t tk : Tok), (∀ b o, s.heap.get? b = some o → h'.get? b = some o) → EP X pins σ Q0 (.str p.shown t) { s with heap := h', toks := tk } :=
    fun h' t tk hk => ⟨.str p.shown, H, I.kept hk, ⟨t, rfl⟩, k _ _ F M H (Stp.refl rl) (.str _) q⟩
  have un := hr.units
  cases rd with
  | none => exact PySem.P.repr_of_none (fin s.heap _ _ fun _ _ z => z)
  | bool b => exact PySem.P.repr_of_bool (fin s.heap _ _ fun _ _ z => z)
  | int i t => exact PySem.P.repr_of_int (by simpa [PyData.showable] using h1) (fin s.heap _ _ fun _ _ z => z)
  | str x t => exact PySem.P.repr_of_str (fin s.heap _ _ fun _ _ z => z) h3
  | list a1 a2 a3 a4 => exact PySem.repr_of_reads' (.list a1 a2 a3 a4) h1 (fun z => by rw [nd] at z; cases z) gu (by omega) (fun _ _ z => z) (fun h' u tk hk => fin h' u tk hk) h3
  | tuple a1 a2 a3 a4 => exact PySem.repr_of_reads' (.tuple a1 a2 a3 a4) h1 (fun z => by rw [nd] at z; cases z) gu (by omega) (fun _ _ z => z) (fun h' u tk hk => fin h' u tk hk) h3
  | dict => simp [PyData.hasDict] at nd
end
end DL

/-! DL7: zip, list(range), list(text). -/
namespace DL
open PySem PySem.Spec L2
open PyProof.Rows hiding St

section
variable {X : Cx} {Y : KJ X.K} {pos p tpos : Pos} {e e2 : Expr} {t u : DTE} {elts : List Expr} {kk : Nat}
/-! ### zip of two lists -/
def pairs (xs ys : List DL.D) : List DL.D := (xs.zip ys).map fun p => .tup [p.1, p.2]
theorem pairs_get {xs ys : List DL.D} {i : Nat} {d : DL.D} (h : (pairs xs ys)[i]? = some d) : ∃ x y, xs[i]? = some x ∧ ys[i]? = some y ∧ d = .tup [x, y] := by
  unfold pairs at h
  rw [List.getElem?_map] at h
  cases e : (xs.zip ys)[i]? with
  | none => rw [e] at h; cases h
  | some q =>
    rw [e] at h
    cases h
    rw [List.getElem?_zip_eq_some] at e
    exact ⟨q.1, q.2, e.1, e.2, rfl⟩
theorem jw_pair {K : PySem.W.Frag} {Y : KJ K} {F F1 : Hp} {M1 : Mp} {H1 H2 : Hp} {x y : V} {d d' : DL.D} {T : Addr} (s : Same F F1) (r : Rel Y F1 M1 H1) (h1 : Rp K F1 x d) (h2 : Rp K F1 y d') (hT : H1 T = none) (e : H2 = upd H1 T (.tup [x, y])) :
    ∃ F2, Stp Y F1 M1 H1 F2 M1 H2 ∧ Rp K F2 (.ref T) (.tup [d, d']) := by
  subst e
  have st := r.newF hT (.tup [x, y])
  exact ⟨_, st, .tup (.inl (.inl upd_same)) (.cons (h1.mono st.same) (.cons (h2.mono st.same) .nil))⟩
def dZipL (t u : DTE) : DTI := fun ρ M R => t ρ M fun d M1 => u ρ M1 fun d' M2 => ∃ xs ys, lstOf M2 d = some xs ∧ lstOf M2 d' = some ys ∧ R (pairs xs ys) (fun M => lstOf M d = some xs ∧ lstOf M d' = some ys) M2
theorem di_zipL (hm : X.mg "zip" = none) (he : DE X Y e t) (he2 : DE X Y e2 u) (hg : Gl X "zip" := by rfl) (hs : starEach [e, e2] X.env = (false, eval e X.env) :: starEach [e2] X.env := by rfl) (hs2 : starEach [e2] X.env = (false, eval e2 X.env) :: starEach [] X.env := by rfl)
    (hpl : (backTo pos (starEach [e2] X.env)).any (·.1) = false := by rfl) : DI X Y (.Tuple elts kk tpos) (.Call (.Name "zip" p) [e, e2] [] pos) (dZipL t u) := by
  refine PI.weak (pi_zip hg hm (pa_cons he (pa_cons he2 pa_nil hs2) hs) hs hpl) ?_
  rintro σ H R0 ⟨F, M, ρ, R, rs, rl, q, k⟩
  refine ⟨F, M, ρ, _, rs, rl, q, fun v d F1 M1 H1 s1 rp1 q1 => ?_⟩
  refine ⟨F1, M1, ρ, _, rs.mono s1.same, s1.rel, q1, fun v2 d2 F2 M2 H2 s2 rp2 ⟨xs, ys, ex, ey, q2⟩ => ?_⟩
  have r1 := rp1.mono s2.same
  obtain ⟨a, vs, rfl, h1, _⟩ := lstOf_rp s2.rel r1 ex
  obtain ⟨b, ws, rfl, h2, _⟩ := lstOf_rp s2.rel rp2 ey
  refine ⟨a, b, vs, ws, rfl, h1, h2, k _ (pairs xs ys) (fun M => lstOf M d = some xs ∧ lstOf M d2 = some ys) F2 M2 H2 (s1.trans s2) ⟨fun F3 M3 H3 s3 r3 g => ?_⟩ q2⟩
  obtain ⟨a', vs', ea, g1, ra⟩ := lstOf_rp r3 (r1.mono s3) g.1
  obtain ⟨b', ws', eb, g2, rb⟩ := lstOf_rp r3 (rp2.mono s3) g.2
  cases ea
  cases eb
  have W := walk_zip (K := X.K) (a := a) (b := b) (xs := vs') (ys := ws') rfl
  have hl : (pairs xs ys).length = min vs'.length ws'.length := by unfold pairs; rw [List.length_map, List.length_zip, ra.length, rb.length]
  refine ⟨by rw [hl]; exact W.stops H3 ⟨g1, g2⟩, fun i dd hi => ?_⟩
  have hlt : i < min vs'.length ws'.length := by rw [← hl]; exact (List.getElem?_eq_some_iff.mp hi).1
  obtain ⟨x, y, hx, hy, rfl⟩ := pairs_get hi
  refine ⟨W.goes i H3 hlt ⟨g1, g2⟩, fun vv H4 yy => ?_⟩
  obtain ⟨T, x1, y1, rfl, hT, eH, hx1, hy1⟩ := W.yields i H3 vv H4 hlt ⟨g1, g2⟩ yy
  obtain ⟨vx, ex1, rx⟩ := ra.get hx
  obtain ⟨vy, ey1, ry⟩ := rb.get hy
  have hx1 : vs'[i]? = some x1 := hx1
  have hy1 : ws'[i]? = some y1 := hy1
  rw [ex1] at hx1
  rw [ey1] at hy1
  cases hx1
  cases hy1
  exact jw_pair s3 r3 rx ry hT eH

/-! ### zip of two texts -/
def ItzS (x y : Str) : It := ⟨fun i _ => i < x.cps.size ∧ i < y.cps.size,
  fun i H v H' => ∃ T cx cy, v = .ref T ∧ H T = none ∧ H' = upd H T (.tup [.str ⟨#[cx]⟩, .str ⟨#[cy]⟩]) ∧ x.cps[i]? = some cx ∧ y.cps[i]? = some cy,
  fun i _ => i = min x.cps.size y.cps.size⟩
theorem turn_zipS {P : Program} {w : World} {K : PySem.W.Frag} {z TI TO i1 i2 : Addr} {x y : Str} {t1 t2 : Tok} (S : ZipSep2 z TI TO i1 i2 [i1] [i2]) :
    Turn P w K (.Tuple elts kk tpos) (ItzS x y) [z, TI, TO, i1, i2] z (fun i h => IsZip h z TI TO .none ∧ IsTupOf2 h TI (.ref i1) (.ref i2) ∧ (∃ a b, IsTupOf2 h TO a b) ∧ h.IsStrIter i1 (strIterType x) x t1 i ∧ h.IsStrIter i2 (strIterType y) y t2 i) where
  mem := by simp
  obj := fun i h st c hc => by
    obtain ⟨hz, hTI, ⟨a, b, hTO⟩, ⟨o1, e1, _, d1⟩, ⟨o2, e2, _, d2⟩⟩ := st
    have e' : c = z ∨ c = TI ∨ c = TO ∨ c = i1 ∨ c = i2 := by simpa using hc
    rcases e' with q | q | q | q | q
    · rw [q]; exact ⟨_, hz, fun v q => nomatch q⟩
    · rw [q]; exact ⟨_, hTI, fun v q => nomatch q⟩
    · rw [q]; exact ⟨_, hTO, fun v q => nomatch q⟩
    · rw [q]; exact ⟨o1, e1, fun v q => by rw [d1] at q; cases q⟩
    · rw [q]; exact ⟨o2, e2, fun v q => by rw [d2] at q; cases q⟩
  keep := fun i h h' st kp => by
    obtain ⟨hz, hTI, ⟨a, b, hTO⟩, ⟨o1, e1, c1⟩, ⟨o2, e2, c2⟩⟩ := st
    exact ⟨kp z (by simp) _ hz, kp TI (by simp) _ hTI, ⟨a, b, kp TO (by simp) _ hTO⟩, ⟨o1, kp i1 (by simp) o1 e1, c1⟩, ⟨o2, kp i2 (by simp) o2 e2, c2⟩⟩
  item := by
    intro X hP hw hK hc i pins s σ H E I hf st hg
    subst hP hw hK
    obtain ⟨hz, hTI, ⟨a0, b0, hTO⟩, h1, h2⟩ := st
    have D1 := Draws.text (prog := X.prog) (w := X.w) (A := X.A.in1) (I.ok.hd hc) i1 x t1
    have D2 := Draws.text (prog := X.prog) (w := X.w) (A := X.A.in1) (I.ok.hd hc) i2 y t2
    have hzl : z < s.heap.objs.size := Heap.lt_size hz
    refine wpAny_pyNext_zipD2_item S D1 D2 hz hTI hTO h1 h2 hg.1 hg.2 fun v1 v2 h' tk p1 p2 z' TO' h1' h2' hT hsz hk => ?_
    obtain ⟨cx, u1, hx, rfl⟩ := p1
    obtain ⟨cy, u2, hy, rfl⟩ := p2
    refine ⟨_, rfl, wpAny_letOwnedTupleGo_zip (s := { s with heap := h', toks := tk }) z' fun h'' z'' sb => ?_⟩
    have hT2 : IsTupOf2 h'' s.heap.objs.size (.str ⟨#[cx]⟩ u1) (.str ⟨#[cy]⟩ u2) := (sb.2 _ (Nat.ne_of_gt hzl)).trans hT
    have new : ObjOk X.prog X.w (upd H s.heap.objs.size (.tup [.str ⟨#[cx]⟩, .str ⟨#[cy]⟩])) h'' s.heap.objs.size (.tup [.str ⟨#[cx]⟩, .str ⟨#[cy]⟩]) :=
      ⟨by show 2 ≤ sizeLine; decide, [.str ⟨#[cx]⟩ u1, .str ⟨#[cy]⟩ u2], .cons ⟨u1, rfl⟩ (.cons ⟨u2, rfl⟩ .nil), ⟨_, hT2, rfl, _, rfl⟩⟩
    have I1 : Inv X pins σ (upd H s.heap.objs.size (.tup [.str ⟨#[cx]⟩, .str ⟨#[cy]⟩])) { s with heap := h'', toks := tk } :=
      I.turnedNew (t' := tk) (ch := [z, TI, TO, i1, i2]) (fun c o hb q => (sb.2 c (fun q' => hb (by simp [q']))).trans (hk c o (fun q' => hb (by simp [q'])) (fun q' => hb (by simp [q'])) (fun q' => hb (by simp [q'])) (fun q' => hb (by simp [q'])) q)) hf (Nat.le_refl _) new
    refine ⟨.ref s.heap.objs.size, _, I1, rfl, ⟨_, cx, cy, rfl, I.hok.fresh (Nat.le_refl _), rfl, hx, hy⟩, ⟨z'', ?_, ⟨_, _, (sb.2 _ S.TOz).trans TO'⟩, ?_, ?_⟩, fun c hcm => ?_⟩
    · exact (sb.2 _ S.TIz).trans (hk _ _ S.TIz S.TITO S.TIi1 S.TIi2 hTI)
    · obtain ⟨o1, e1, c1⟩ := h1'
      exact ⟨o1, (sb.2 _ (fun q => S.zi1 q.symm)).trans e1, c1⟩
    · obtain ⟨o2, e2, c2⟩ := h2'
      exact ⟨o2, (sb.2 _ (fun q => S.zi2 q.symm)).trans e2, c2⟩
    · have hlt : c < s.heap.objs.size := by
        have e' : c = z ∨ c = TI ∨ c = TO ∨ c = i1 ∨ c = i2 := by simpa using hcm
        rcases e' with q | q | q | q | q
        · rw [q]; exact hzl
        · rw [q]; exact Heap.lt_size hTI
        · rw [q]; exact Heap.lt_size hTO
        · rw [q]; obtain ⟨_, e1, _⟩ := h1; exact Heap.lt_size e1
        · rw [q]; obtain ⟨_, e2, _⟩ := h2; exact Heap.lt_size e2
      rw [upd_ne (Nat.ne_of_lt hlt)]
      exact (hf c hcm).1
  done := by
    intro X hP hw hK hc i pins s σ H E I hf st hg
    subst hP hw hK
    obtain ⟨hz, hTI, ⟨a0, b0, hTO⟩, h1, h2⟩ := st
    have D1 := Draws.text (prog := X.prog) (w := X.w) (A := X.A.in1) (I.ok.hd hc) i1 x t1
    have D2 := Draws.text (prog := X.prog) (w := X.w) (A := X.A.in1) (I.ok.hd hc) i2 y t2
    have hg' : i = min x.cps.size y.cps.size := hg
    refine wpAny_pyNext_zipD2_end S D1 D2 hz hTI hTO h1 h2 (by omega) (by omega) (by omega) fun h' tk hk => ⟨rfl, I.turnedL (t' := tk) (ch := [z, TI, TO, i1, i2]) (fun c o hb q =>
      hk c o (fun q' => hb (by simp [q'])) (fun q' => hb (by simp [q'])) (fun q' => hb (by simp [q'])) (fun q' => hb (by simp [q'])) q) hf⟩
  self := fun A i s Q E st h => wpAny_pyIter_zip st.1 h
def iZipS (ta : TA) : TI := fun σ H R => ta σ H fun vs H1 => ∃ x y, vs = [.str x, .str y] ∧ R (ItzS x y) H1
theorem pi_zipS {ta : TA} (hg : Gl X "zip") (hm : X.mg "zip" = none) (ha : PA X [e, e2] ta)
    (hs : starEach [e, e2] X.env = (false, eval e X.env) :: starEach [e2] X.env) (hpl : (backTo pos (starEach [e2] X.env)).any (·.1) = false) :
    PI X (.Tuple elts kk tpos) (.Call (.Name "zip" p) [e, e2] [] pos) (iZipS ta) := by
  constructor
  intro pins s σ H R I h
  refine Call_ (ld_blt I hg hm PyProof.Rows.boot_zip (PyProof.Rows.callWith_type1 (thn (ha.run pos pins s σ H _ I h) ?_) hs hpl))
  rintro us s1 ⟨vs, H1, I1, r1, x, y, rfl, q⟩
  obtain ⟨u1, u2, rfl, ⟨t1, rfl⟩, ⟨t2, rfl⟩⟩ := vals2 r1
  refine zip_begins2 (begins_text x t1) (begins_text y t2) trivial trivial fun h' hz hTI hTO g1 g2 hsz hk => wpAny_pyIter_zip hz ?_
  have I2 : Inv X pins σ H1 { s1 with heap := h' } := I1.kept (t' := s1.toks) hk
  refine ⟨s1.heap.objs.size + 4, [s1.heap.objs.size + 4, s1.heap.objs.size + 2, s1.heap.objs.size + 3, s1.heap.objs.size, s1.heap.objs.size + 1], _, _, H1, rfl, I2, turn_zipS (zip_sep2 (N := s1.heap.objs.size) (fp1 := []) (fp2 := []) (fun _ z => nomatch z) (fun _ z => nomatch z)), ⟨hz, hTI, ⟨_, _, hTO⟩, ⟨_, g1, rfl, rfl⟩, ⟨_, g2, rfl, rfl⟩⟩, fun c hcm => ?_, q⟩
  have e' : c = s1.heap.objs.size + 4 ∨ c = s1.heap.objs.size + 2 ∨ c = s1.heap.objs.size + 3 ∨ c = s1.heap.objs.size ∨ c = s1.heap.objs.size + 1 := by simpa using hcm
  have hle : s1.heap.objs.size ≤ c := by
    rcases e' with z | z | z | z | z
    · rw [z]; exact Nat.le_add_right _ _
    · rw [z]; exact Nat.le_add_right _ _
    · rw [z]; exact Nat.le_add_right _ _
    · rw [z]; exact Nat.le_refl _
    · rw [z]; exact Nat.le_add_right _ _
  exact I1.fpOk hle (I1.hok.fresh hle)
def dZipS (t u : DTE) : DTI := fun ρ M R => t ρ M fun d M1 => u ρ M1 fun d' M2 => ∃ x y, d = .str x ∧ d' = .str y ∧ R (pairs (signs x) (signs y)) (fun _ => True) M2
theorem di_zipS (hm : X.mg "zip" = none) (he : DE X Y e t) (he2 : DE X Y e2 u) (hg : Gl X "zip" := by rfl) (hs : starEach [e, e2] X.env = (false, eval e X.env) :: starEach [e2] X.env := by rfl) (hs2 : starEach [e2] X.env = (false, eval e2 X.env) :: starEach [] X.env := by rfl)
    (hpl : (backTo pos (starEach [e2] X.env)).any (·.1) = false := by rfl) : DI X Y (.Tuple elts kk tpos) (.Call (.Name "zip" p) [e, e2] [] pos) (dZipS t u) := by
  refine PI.weak (pi_zipS hg hm (pa_cons he (pa_cons he2 pa_nil hs2) hs) hs hpl) ?_
  rintro σ H R0 ⟨F, M, ρ, R, rs, rl, q, k⟩
  refine ⟨F, M, ρ, _, rs, rl, q, fun v d F1 M1 H1 s1 rp1 q1 => ?_⟩
  refine ⟨F1, M1, ρ, _, rs.mono s1.same, s1.rel, q1, fun v2 d2 F2 M2 H2 s2 rp2 ⟨x, y, ex, ey, q2⟩ => ?_⟩
  subst ex ey
  cases rp1
  cases rp2
  refine ⟨x, y, rfl, k _ _ _ F2 M2 H2 (s1.trans s2) ⟨fun F3 M3 H3 s3 r3 g => ?_⟩ q2⟩
  have hl : (pairs (signs x) (signs y)).length = min x.cps.size y.cps.size := by unfold pairs signs; simp
  refine ⟨hl, fun i dd hi => ?_⟩
  have hlt : i < min x.cps.size y.cps.size := by rw [← hl]; exact (List.getElem?_eq_some_iff.mp hi).1
  obtain ⟨a, b, ha, hb, rfl⟩ := pairs_get hi
  refine ⟨⟨by omega, by omega⟩, fun vv H4 yy => ?_⟩
  obtain ⟨T, cx, cy, rfl, hT, eH, hx, hy⟩ := yy
  unfold signs at ha hb
  rw [List.getElem?_map, Array.getElem?_toList, hx] at ha
  rw [List.getElem?_map, Array.getElem?_toList, hy] at hb
  cases ha
  cases hb
  exact jw_pair s3 r3 (.str _) (.str _) hT eH

/-! ### list(range(n)) -/
def dListRg (fz : Bool) (t : DTE) : DTE := fun ρ M Q => t ρ M fun d M1 => ∃ j, d = .int j ∧ 0 ≤ j ∧ j ≤ 16777216 ∧ newL fz (rgD 0 j.toNat) M1 Q
theorem rgV_rp {K : PySem.W.Frag} {F : Hp} (j : Int) : RpAll K F (L2.rgV 0 j) (rgD 0 j.toNat) := by
  have g : ∀ n : Nat, ∀ f : Nat → Int, RpAll K F ((List.range n).map fun i => V.int (f i)) ((List.range n).map fun i => D.int (f i)) := by
    intro n
    induction n with
    | zero => intro f; exact .nil
    | succ n ih =>
      intro f
      rw [List.range_succ_eq_map, List.map_cons, List.map_cons, List.map_map, List.map_map]
      exact .cons (.int _) (ih fun i => f (i + 1))
  have := g j.toNat fun i => 0 + (i : Nat)
  unfold L2.rgV rgD
  rw [show (j - 0).toNat = j.toNat by omega]
  exact this
theorem de_listRg (fz : Bool) {p1 p2 : Pos} (m1 : X.mg "list" = none) (m2 : X.mg "range" = none) (he : DE X Y e t) (hc : X.calm = true := by rfl) (g1 : Gl X "list" := by rfl) (g2 : Gl X "range" := by rfl)
    (na : starEach [e] X.env = (false, eval e X.env) :: starEach [] X.env := by rfl) (na2 : starEach [.Call (.Name "range" p1) [e] [] p2] X.env = (false, eval (.Call (.Name "range" p1) [e] [] p2) X.env) :: starEach [] X.env := by rfl) :
    DE X Y (.Call (.Name "list" p) [.Call (.Name "range" p1) [e] [] p2] [] pos) (dListRg fz t) := by
  refine PE.weak (pe_listRg hc g1 m1 (prg_1 g2 m2 he na) na2) ?_
  rintro σ H Q0 ⟨F, M, ρ, Q, rs, rl, q, k⟩
  refine ⟨F, M, ρ, _, rs, rl, q, fun v d F1 M1 H1 s1 rp1 ⟨j, ed, h0, h1, q1⟩ => ?_⟩
  subst ed
  cases rp1
  refine ⟨j, rfl, RgOk.of_le (by omega) h1 (by omega) h0, fun l hl => ?_⟩
  exact newL_ok s1.rel (rgV_rp j) q1 (fun v d F' M' H' s => k v d F' M' H' (s1.trans s)) l hl
end
end DL

/-! DL8a: sets of texts made of a list or of a text, and their sorted list. -/
namespace DL
open PySem PySem.Spec L2
open PyProof.Rows hiding St

def kOf (e : Int × Value) : Str := match e.2 with
  | .str k _ => k
  | _ => Str.empty
def TxE (w : World) (e : Int × Value) : Prop := ∃ k u, e = (hashStr w k, Value.str k u)
/-- the set at a has just the texts ks -/
def TxS (w : World) (h : Heap) (a : Addr) (ks : List Str) : Prop :=
  ∃ o es ep t, h.get? a = some o ∧ o.ExactSet ∧ o.data = .set es ep t ∧ (∀ e ∈ es.toList, TxE w e) ∧ (es.toList.map kOf).Perm ks ∧ ks.Nodup ∧
    es.size < scanBound ∧ t.fits es.size = true ∧ Ris t.place.toList ∧ (w.params.followText "set-order" = true ∨ t.led = true)
section
variable {P : Program} {w : World} {A : Around} {E : Value → Shared → Prop} {s : Shared} {a : Addr} {ks : List Str}
theorem TxS.at {h h' : Heap} (R : TxS w h a ks) (keep : ∀ o, h.get? a = some o → h'.get? a = some o) : TxS w h' a ks :=
  let ⟨o, es, ep, t, x, r⟩ := R
  ⟨o, es, ep, t, keep o x, r⟩
theorem tx_elems {l : List (Int × Value)} (g : ∀ e ∈ l, TxE w e) : ElemsOf (PySem.strKind P w) l := by
  intro e he
  obtain ⟨k, u, rfl⟩ := g e he
  exact ⟨⟨k, strKind_is P w k u, rfl⟩, rfl⟩
theorem tx_is (k k2 : Str) (u : Tok) : (PySem.strKind P w).is k (.str k2 u) = true ↔ k2 = k := by
  show Value.isStrOf k (.str k2 u) = true ↔ _
  simp [Value.isStrOf]
theorem tx_none {l : List (Int × Value)} (g : ∀ e ∈ l, TxE w e) (k : Str) : k ∈ l.map kOf ↔ ∃ e ∈ l, (PySem.strKind P w).is k e.2 = true := by
  rw [List.mem_map]
  refine ⟨fun ⟨e, he, q⟩ => ⟨e, he, ?_⟩, fun ⟨e, he, q⟩ => ⟨e, he, ?_⟩⟩ <;> obtain ⟨k2, u, rfl⟩ := g e he
  · exact (tx_is k k2 u).2 q
  · exact (tx_is k k2 u).1 q
set_option maxHeartbeats 1000000 in
theorem tx_add {k : Str} {u : Tok} {Q : Bool → Shared → Prop} (R : TxS w s.heap a ks) (room : ks.length + 1 < scanBound)
    (hQ : ∀ h' b, Heap.SameBut a s.heap h' → TxS w h' a (if k ∈ ks then ks else k :: ks) → Q b { s with heap := h' }) :
    wpAny (model P w) A (setAddHashed a (.str k u) ((PySem.strKind P w).hash k)) Q E s := by
  obtain ⟨o, es, ep, t, ho, hex, hd, good, pm0, nodup, small, fit, rises, led⟩ := R
  have key : (PySem.strKind P w).is k (.str k u) = true := strKind_is P w k u
  have scan : (Value.str k u).scannable = true := rfl
  have elems : ElemsOf (PySem.strKind P w) es.toList := tx_elems good
  unfold setAddHashed setAddHashedIn
  refine wpAny_holding (wpAny_bind (wpAny_setState_of ho hd fit ?_))
  dsimp only
  rw [byScan_of scan small elems]
  simp only [↓reduceIte]
  unfold setAddByScan
  refine wpAny_bind (wpAny_bind (wpAny_rule (wpAny_bind (wpAny_setScan_of key ho hd fit elems ?_))))
  cases hfi : List.findIdx? (fun e => (PySem.strKind P w).is k e.2) es.toList with
  | some j =>
    obtain ⟨hj, pj, _⟩ := List.findIdx?_eq_some_iff_getElem.mp hfi
    have inn : k ∈ ks := pm0.mem_iff.mp ((tx_none (P := P) (w := w) good k).2 ⟨_, List.getElem_mem hj, pj⟩)
    refine wpAny_pure (wpAny_pure (hQ s.heap _ (Heap.SameBut.refl a s.heap) ?_))
    rw [if_pos inn]
    exact ⟨o, es, ep, t, ho, hex, hd, good, pm0, nodup, small, fit, rises, led⟩
  | none =>
    dsimp only
    have out : k ∉ ks := fun z => by
      obtain ⟨e, he, q⟩ := (tx_none (P := P) (w := w) good k).1 (pm0.mem_iff.mpr z)
      rw [List.findIdx?_eq_none_iff.mp hfi e he] at q
      cases q
    have said : ∀ (b : Bool) {s1 : Shared} {Q' : Unit → Shared → Prop}, Q' () s1 → wpAny (model P w) A (match b with | true => rule "set.scan.the-table-gave-way" | false => pure ()) Q' E s1 := by
      intro b s1 Q' q
      cases b
      · exact wpAny_pure q
      · exact wpAny_rule q
    have p1 := layNew_perm t es ((PySem.strKind P w).hash k) (.str k u)
    have f1 := layNew_fits t es ((PySem.strKind P w).hash k) (.str k u)
    have i1 := layNew_ris t es ((PySem.strKind P w).hash k) (.str k u) rises
    have l1 := layNew_led t es ((PySem.strKind P w).hash k) (.str k u)
    generalize layNew t es ((PySem.strKind P w).hash k) (.str k u) = Z at p1 f1 i1 l1 ⊢
    obtain ⟨es1, t1, dummy, gave⟩ := Z
    dsimp only at p1 f1 i1 l1 ⊢
    rw [Array.toList_push] at p1
    have pc := p1.trans (List.perm_append_singleton _ _)
    have pk : (es1.toList.map kOf).Perm (k :: ks) := (pc.map kOf).trans (pm0.cons k)
    have g1 : ∀ e ∈ es1.toList, TxE w e := by
      intro e he
      cases List.mem_cons.mp (pc.mem_iff.mp he) with
      | inl z => exact ⟨k, u, z⟩
      | inr z => exact good e z
    have nd1 : (k :: ks).Nodup := List.nodup_cons.mpr ⟨out, nodup⟩
    have size1 : es1.size = ks.length + 1 := by
      have q := pk.length_eq
      rw [List.length_map, List.length_cons, Array.length_toList] at q
      exact q
    have small1 : es1.size < scanBound := size1 ▸ room
    have led1 : w.params.followText "set-order" = true ∨ t1.led = true := led.imp id fun z => by rw [l1]; exact z
    have fin : ∀ h' b, Heap.SameBut a s.heap h' → TxS w h' a (k :: ks) → Q b { s with heap := h' } := fun h' b sb r => hQ h' b sb (by rw [if_neg out]; exact r)
    have last : ∀ (t2 : SetTable), t2.fits es1.size = true → Ris t2.place.toList → (w.params.followText "set-order" = true ∨ t2.led = true) →
        (∃ o1, (s.heap.update a (Obj.putSet es1 t2)).get? a = some o1 ∧ o1.ExactSet ∧ o1.data = .set es1 (ep + 1) t2) ∧ TxS w (s.heap.update a (Obj.putSet es1 t2)) a (k :: ks) ∧
        (∃ es3 t3, es3 = (relayAll t2 es1 (SetTable.grown es1.size)).1 ∧ t3 = (relayAll t2 es1 (SetTable.grown es1.size)).2.1 ∧ es3.size < scanBound ∧ TxS w ((s.heap.update a (Obj.putSet es1 t2)).update a (Obj.putSet es3 t3)) a (k :: ks)) := by
      intro t2 f2 i2 l2
      have ho1 := store_at (es' := es1) (t' := t2) ho hd
      refine ⟨⟨_, ho1, hex, rfl⟩, ⟨_, es1, _, t2, ho1, hex, rfl, g1, pk, nd1, small1, f2, i2, l2⟩, _, _, rfl, rfl, ?_⟩
      have p3 := relayAll_perm t2 es1 (SetTable.grown es1.size)
      have f3 := relayAll_fits t2 es1 (SetTable.grown es1.size)
      have i3 := relayAll_ris t2 es1 (SetTable.grown es1.size)
      have l3 := relayAll_led t2 es1 (SetTable.grown es1.size)
      have ho2 := store_at (es' := (relayAll t2 es1 (SetTable.grown es1.size)).1) (t' := (relayAll t2 es1 (SetTable.grown es1.size)).2.1) ho1 rfl
      have size3 : (relayAll t2 es1 (SetTable.grown es1.size)).1.size = es1.size := by
        have q := p3.length_eq
        rw [Array.length_toList, Array.length_toList] at q
        exact q
      have small3 := small1
      rw [← size3] at small3
      refine ⟨small3, _, _, _, _, ho2, hex, rfl, fun e he => g1 e (p3.mem_iff.mp he), (p3.map kOf).trans pk, nd1, small3, f3, i3, l2.imp id fun z => by rw [l3]; exact z⟩
    have sb1 : ∀ t2, Heap.SameBut a s.heap (s.heap.update a (Obj.putSet es1 t2)) := fun t2 => Heap.SameBut.update s.heap a _
    refine wpAny_bind (said _ ?_)
    split
    · refine wpAny_bind ?_
      rw [hashByValue_scannable 8 scan]
      refine wpAny_pure ?_
      refine wpAny_bind (wpAny_storeSet_of ho hd ?_ (fits_of_scanBound small1))
      split
      · obtain ⟨⟨o1, ho1, x1, d1⟩, r1, es3, t3, e3, et3, b3, r3⟩ := last t1 f1 i1 led1
        split
        · refine wpAny_bind (said _ ?_)
          refine wpAny_bind (wpAny_storeSet_of ho1 d1 ?_ (fits_of_scanBound (by rw [← e3]; exact b3)))
          rw [← e3, ← et3]
          exact wpAny_pure (wpAny_pure (fin _ _ ((sb1 _).trans (Heap.SameBut.update _ a _)) r3))
        · exact wpAny_pure (wpAny_pure (fin _ _ (sb1 _) r1))
      · obtain ⟨⟨o1, ho1, x1, d1⟩, r1, es3, t3, e3, et3, b3, r3⟩ := last { t1 with plain := false } (SetTable.fits_plain_off f1) i1 led1
        split
        · refine wpAny_bind (said _ ?_)
          refine wpAny_bind (wpAny_storeSet_of ho1 d1 ?_ (fits_of_scanBound (by rw [← e3]; exact b3)))
          rw [← e3, ← et3]
          exact wpAny_pure (wpAny_pure (fin _ _ ((sb1 _).trans (Heap.SameBut.update _ a _)) r3))
        · exact wpAny_pure (wpAny_pure (fin _ _ (sb1 _) r1))
    · refine wpAny_bind (wpAny_pure ?_)
      simp only [↓reduceIte]
      refine wpAny_bind (wpAny_storeSet_of ho hd ?_ (fits_of_scanBound small1))
      obtain ⟨⟨o1, ho1, x1, d1⟩, r1, es3, t3, e3, et3, b3, r3⟩ := last t1 f1 i1 led1
      split
      · refine wpAny_bind (said _ ?_)
        refine wpAny_bind (wpAny_storeSet_of ho1 d1 ?_ (fits_of_scanBound (by rw [← e3]; exact b3)))
        rw [← e3, ← et3]
        exact wpAny_pure (wpAny_pure (fin _ _ ((sb1 _).trans (Heap.SameBut.update _ a _)) r3))
      · exact wpAny_pure (wpAny_pure (fin _ _ (sb1 _) r1))
end
end DL

/-! DL8b: set(a list of texts), set(a text). -/
namespace DL
open PySem PySem.Spec L2
open PyProof.Rows hiding St

section
variable {P : Program} {w : World} {A : Around} {E : Value → Shared → Prop} {s : Shared}
/-- few distinct texts -/
def Few (xs : List Str) : Prop := ∀ ks : List Str, ks.Nodup → (∀ k ∈ ks, k ∈ xs) → ks.length < 64
theorem tx_loop {I : Addr} {fp wr : List Addr} {G : Array GenState → Array GenState → Prop} {n : Nat} {Pv : Nat → Value → Prop} {St : Nat → Shared → Prop} {R : Result → Shared → Prop}
    (W : WalksS P w A.in1 I fp wr G n Pv St) (S : Addr) (apart : S ∉ fp) (xs : List Str) (hn : n = xs.length) (few : Few xs) (items : ∀ i v, Pv i v → ∃ k t, xs[i]? = some k ∧ v = .str k t) :
    ∀ (m i : Nat) (s : Shared), n - i = m → i ≤ n → St i s → (∃ ks, TxS w s.heap S ks ∧ ∀ k, k ∈ ks ↔ k ∈ xs.take i) →
      (∀ s' ks, Moved (S :: wr) G s s' → TxS w s'.heap S ks → (∀ k, k ∈ ks ↔ k ∈ xs) → R (.ok (.ret .none)) s') →
      codeAny (model P w) A (.builtin "set.update.loop" ⟨[.ref S, .ref I], []⟩) R s := by
  have Sw : S ∉ wr := fun z => apart (W.sub _ z)
  have wide : ∀ b ∈ wr, b ∈ S :: wr := fun b z => List.mem_cons_of_mem _ z
  intro m
  induction m with
  | zero =>
    rintro i s hm hi st ⟨ks, T, mem⟩ hR
    obtain rfl : i = n := by omega
    refine codeAny_builtin F.entry_set_update_loop ?_
    rw [Around.under_plainId F.plain_set_update_loop _]
    show wpAny _ A.in1 (pyNext (.ref I) >>= _) _ _ s
    refine wpAny_bind (W.done s _ _ st fun s1 mv => ?_)
    have whole : xs.take i = xs := List.take_of_length_le (Nat.le_of_eq hn.symm)
    rw [whole] at mem
    exact wpAny_pure (hR s1 ks (mv.mono wide) (T.at fun o e => mv.heap S o Sw e) mem)
  | succ m ih =>
    rintro i s hm hi st ⟨ks, T, mem⟩ hR
    have lt : i < n := by omega
    refine codeAny_builtin F.entry_set_update_loop ?_
    rw [Around.under_plainId F.plain_set_update_loop _]
    show wpAny _ A.in1 (pyNext (.ref I) >>= _) _ _ s
    refine wpAny_bind (W.item i s _ _ lt st fun v s1 pv st1 mv => ?_)
    obtain ⟨z, t, hz, rfl⟩ := items i v pv
    have T1 : TxS w s1.heap S ks := T.at fun o e => mv.heap S o Sw e
    refine wpAny_bind (m := holding [Value.str z t] (setAdd S (.str z t))) (wpAny_holding ?_)
    unfold setAdd
    refine wpAny_holding (wpAny_bind ((PySem.strKind P w).pyHash (k := z) (strKind_is _ _ _ _) ?_))
    have short : ks.length < 64 := few ks (by obtain ⟨_, _, _, _, _, _, _, _, _, nd, _⟩ := T1; exact nd) fun k hk => List.mem_of_mem_take ((mem k).mp hk)
    refine tx_add (s := { s1 with toks := s1.toks + 1 }) T1 (by unfold scanBound; omega) fun h' b same T2 => ?_
    have mem2 : ∀ k, k ∈ (if z ∈ ks then ks else z :: ks) ↔ k ∈ xs.take (i + 1) := fun k => by
      rw [List.take_add_one, hz, List.mem_append, ← mem k]
      split
      · rename_i zin
        exact ⟨.inl, fun q => q.elim id fun e => by simp at e; rw [e]; exact zin⟩
      · rw [List.mem_cons]
        simp [or_comm]
    refine wpAny_pure ⟨plainId_quiet F.plain_set_update_loop _, ih (i + 1) _ (by omega) lt (W.frame _ s1 _ _ st1 (Nat.le_succ _) fun b hb o e => ?_) ⟨_, T2, mem2⟩ fun s2 k2 mv2 T3 m3 => ?_⟩
    · have ne : b ≠ S := fun q => apart (q ▸ hb)
      exact (same.2 b ne).trans e
    · refine hR s2 k2 (Moved.trans W.gtrans ((mv.mono wide).then_heap (Nat.le_succ _) fun b o hb e => ?_) mv2) T3 m3
      have ne : b ≠ S := fun q => hb (q ▸ List.mem_cons_self)
      exact (same.2 b ne).trans e
abbrev sO (w : World) : Obj := { cls := .type "set", dict := none, data := .set #[] 0 (.fresh 0 0 (!w.params.followText "set-order")) }
theorem tx_new {h : Heap} {a : Addr} (ho : h.get? a = some (sO w)) : TxS w h a [] :=
  ⟨_, #[], 0, _, ho, ⟨rfl, rfl, rfl⟩, rfl, (fun e he => nomatch he), .nil, .nil, (by decide), (by rfl), .nil, by
    show _ ∨ (!w.params.followText "set-order") = true
    cases w.params.followText "set-order"
    · exact .inr rfl
    · exact .inl rfl⟩
set_option maxHeartbeats 3200000 in
theorem call_setL {l : Addr} {items : Array Value} {xs : List Str} {Q : Value → Shared → Prop} (hh : A.handled = none) (hl : s.heap.IsList l items) (are : ∀ (i : Nat) (v : Value), items[i]? = some v → ∃ k t, xs[i]? = some k ∧ v = .str k t) (len : items.size = xs.length) (few : Few xs)
    (k : ∀ (h' : Heap) (tk : Nat) (ks : List Str), TxS w h' s.heap.objs.size ks → (∀ k, k ∈ ks ↔ k ∈ xs) → (∀ b o, s.heap.get? b = some o → h'.get? b = some o) → Q (.ref s.heap.objs.size) { s with heap := h', toks := tk }) :
    wpAny (model P w) A (call (.type "set") [.ref l]) Q E s := by
  obtain ⟨c, tl, hmro⟩ := F.called_set.mro
  have hmade := F.called_set.made
  have hsub := F.called_set.sub
  refine wpAny_call (codeAny_of_tree (wpAny_pure (a := _) ⟨Code.quiet_builtin _ (by decide +kernel), codeAny_builtin F.entry_type_call ?_⟩))
  rw [Around.under_plain (weight_type_call_type "set" [.ref l] []) rfl]
  have h1 := F.called_set.notType
  have h2 := F.called_set.canCreate
  have hct := F.typeCall_set_1 (.ref l)
  repeat (any_goals (first | assumption | wp_step))
  refine codeAny_mono (code_set_led1 (.ref l) (E := E) (Q₁ := fun v s1 => v = .ref s.heap.objs.size ∧ s1 = { s with heap := s.heap.push (sO w) }) ⟨rfl, rfl⟩) fun r s1 hr => ?_
  match r, hr with
  | .error e, hr => exact hr
  | .ok (.ret v), hr =>
    obtain ⟨rfl, rfl⟩ := hr
    have new : (s.heap.push (sO w)).get? s.heap.objs.size = some (sO w) := Heap.get?_push_size _ rfl
    have hT : Shared.TypeIs { s with heap := s.heap.push (sO w) } (.ref s.heap.objs.size) "set" := ⟨_, new, rfl⟩
    have hli := F.called_set.init.lookup
    have hbi := F.called_set.init.bind (.ref s.heap.objs.size)
    repeat (any_goals (first | assumption | wp_step))
    refine codeAny_mono (codeAny_call_builtin (R := wants (fun r s2 => r = .none ∧ ∃ h' tk ks, s2 = { s with heap := h', toks := tk } ∧ TxS w h' s.heap.objs.size ks ∧ (∀ k, k ∈ ks ↔ k ∈ xs) ∧
      (∀ b o, s.heap.get? b = some o → h'.get? b = some o)) E) F.called_set.init.plain F.entry_set_init (check_set_init_1 hT ?_)) fun r2 s2 hr2 => ?_
    · obtain ⟨ol, hol, hcl, nl, hdl⟩ := hl
      obtain ⟨ocls, odict, odata, oslots⟩ := ol
      dsimp only at hcl hdl
      subst hcl hdl
      have hol2 : (s.heap.push (sO w)).get? l = some { cls := .type "list", dict := odict, data := .seq items nl, slots := oslots } := Heap.get?_push_of_some _ hol
      have y1 := F.sub_list_set
      have y2 := F.sub_list_frozenset
      have y3 : (Value.type "list" == Value.type "dict") = false := by decide
      have hl1 : (s.heap.push (sO w)).IsList l items := ⟨_, hol2, rfl, nl, rfl⟩
      unfold Builtin.«set.__init__» noKeywords Builtin.Frozenset.updateFrom
      generalize hPI : pyIter = PI
      wp_walk
      subst hPI
      refine wpAny_pyIter_list hl1 (wpAny_bind (wpAny_runValue ?_))
      have ll : l < s.heap.objs.size := Heap.lt_size hol
      have sz : (s.heap.push (sO w)).objs.size = s.heap.objs.size + 1 := Heap.size_push ..
      have ne1 : l ≠ (s.heap.push (sO w)).objs.size := Nat.ne_of_lt (by rw [sz]; exact Nat.lt_succ_of_lt ll)
      have ne2 : s.heap.objs.size ∉ [(s.heap.push (sO w)).objs.size, l] := by
        simp only [List.mem_cons, List.not_mem_nil, or_false, not_or]
        exact ⟨Nat.ne_of_lt (by rw [sz]; exact Nat.lt_succ_self _), Nat.ne_of_gt ll⟩
      refine tx_loop ((Walks.list (by simp [hh]) _ l ne1 items).toS) s.heap.objs.size ne2 xs len few are (items.size - 0) 0 _ (by omega) (Nat.zero_le _) ⟨⟨_, Heap.get?_push_size _ rfl, rfl, rfl⟩, hl1.push _⟩
        ⟨[], tx_new (Heap.get?_push_of_some _ new), fun k => by simp⟩ fun s' ks mv T mem => ?_
      obtain ⟨h', g2, d', tk', os'⟩ := s'
      obtain rfl : g2 = s.gens := mv.gens
      obtain rfl : d' = s.drawn := mv.drawn
      obtain rfl : os' = s.os := mv.os
      show wpAny _ _ _ _ _ _
      refine wpAny_pure ?_
      show wpAny _ _ (ret Value.none) _ _ _
      refine wpAny_pure ⟨rfl, h', tk', ks, rfl, T, mem, fun b o e => ?_⟩
      have lb : b < s.heap.objs.size := Heap.lt_size e
      refine mv.heap b o ?_ (Heap.get?_push_of_some _ (Heap.get?_push_of_some _ e))
      simp only [List.mem_cons, List.not_mem_nil, or_false, not_or]
      exact ⟨Nat.ne_of_lt lb, Nat.ne_of_lt (by rw [sz]; exact Nat.lt_succ_of_lt lb)⟩
    · match r2, hr2 with
      | .error e, hr2 => exact hr2
      | .ok (.ret r), hr2 =>
        obtain ⟨rfl, h', tk, ks, rfl, T, mem, kp⟩ := hr2
        repeat (any_goals (first | assumption | wp_step))
        exact k _ _ _ T mem kp
      | .ok .next, hr2 => exact hr2.elim
      | .ok .brk, hr2 => exact hr2.elim
      | .ok .cont, hr2 => exact hr2.elim
  | .ok .next, hr => exact hr.elim
  | .ok .brk, hr => exact hr.elim
  | .ok .cont, hr => exact hr.elim
set_option maxHeartbeats 3200000 in
theorem call_setT {x : Str} {u : Tok} {Q : Value → Shared → Prop} (hh : A.handled = none) (few : Few (PyProof.Rows.signs x))
    (k : ∀ (h' : Heap) (tk : Nat) (ks : List Str), TxS w h' s.heap.objs.size ks → (∀ k, k ∈ ks ↔ k ∈ PyProof.Rows.signs x) → (∀ b o, s.heap.get? b = some o → h'.get? b = some o) → Q (.ref s.heap.objs.size) { s with heap := h', toks := tk }) :
    wpAny (model P w) A (call (.type "set") [.str x u]) Q E s := by
  obtain ⟨c, tl, hmro⟩ := F.called_set.mro
  have hmade := F.called_set.made
  have hsub := F.called_set.sub
  refine wpAny_call (codeAny_of_tree (wpAny_pure (a := _) ⟨Code.quiet_builtin _ (by decide +kernel), codeAny_builtin F.entry_type_call ?_⟩))
  rw [Around.under_plain (weight_type_call_type "set" [.str x u] []) rfl]
  have h1 := F.called_set.notType
  have h2 := F.called_set.canCreate
  have hct := F.typeCall_set_1 (.str x u)
  repeat (any_goals (first | assumption | wp_step))
  refine codeAny_mono (code_set_led1 (.str x u) (E := E) (Q₁ := fun v s1 => v = .ref s.heap.objs.size ∧ s1 = { s with heap := s.heap.push (sO w) }) ⟨rfl, rfl⟩) fun r s1 hr => ?_
  match r, hr with
  | .error e, hr => exact hr
  | .ok (.ret v), hr =>
    obtain ⟨rfl, rfl⟩ := hr
    have new : (s.heap.push (sO w)).get? s.heap.objs.size = some (sO w) := Heap.get?_push_size _ rfl
    have hT : Shared.TypeIs { s with heap := s.heap.push (sO w) } (.ref s.heap.objs.size) "set" := ⟨_, new, rfl⟩
    have hli := F.called_set.init.lookup
    have hbi := F.called_set.init.bind (.ref s.heap.objs.size)
    repeat (any_goals (first | assumption | wp_step))
    refine codeAny_mono (codeAny_call_builtin (R := wants (fun r s2 => r = .none ∧ ∃ h' tk ks, s2 = { s with heap := h', toks := tk } ∧ TxS w h' s.heap.objs.size ks ∧ (∀ k, k ∈ ks ↔ k ∈ PyProof.Rows.signs x) ∧
      (∀ b o, s.heap.get? b = some o → h'.get? b = some o)) E) F.called_set.init.plain F.entry_set_init (check_set_init_1 hT ?_)) fun r2 s2 hr2 => ?_
    · have y1 := F.sub_str_set
      have y2 := F.sub_str_frozenset
      have y3 : (Value.type "str" == Value.type "dict") = false := by decide
      have y4 : Shared.TypeIs { s with heap := s.heap.push (sO w) } (.str x u) "str" := typeIs_str _ _ _
      unfold Builtin.«set.__init__» noKeywords Builtin.Frozenset.updateFrom
      generalize hPI : pyIter = PI
      wp_walk
      subst hPI
      refine wpAny_pyIter_str fun o St walks st0 => wpAny_bind (wpAny_runValue ?_)
      have sz : (s.heap.push (sO w)).objs.size = s.heap.objs.size + 1 := Heap.size_push ..
      have ne2 : s.heap.objs.size ∉ [(s.heap.push (sO w)).objs.size] := by
        simp only [List.mem_cons, List.not_mem_nil, or_false]
        exact Nat.ne_of_lt (by rw [sz]; exact Nat.lt_succ_self _)
      have len : x.cps.size = (PyProof.Rows.signs x).length := by unfold PyProof.Rows.signs; simp
      have are : ∀ (i : Nat) (v : Value), SignAt x i v → ∃ k t, (PyProof.Rows.signs x)[i]? = some k ∧ v = .str k t := by
        rintro i v ⟨c, t, hc, rfl⟩
        exact ⟨_, t, by unfold PyProof.Rows.signs; rw [List.getElem?_map, Array.getElem?_toList, hc]; rfl, rfl⟩
      refine tx_loop ((walks _ (by simp [hh])).toS) s.heap.objs.size ne2 (PyProof.Rows.signs x) len few are (x.cps.size - 0) 0 _ (by omega) (Nat.zero_le _) st0
        ⟨[], tx_new (Heap.get?_push_of_some _ new), fun k => by simp⟩ fun s' ks mv T mem => ?_
      obtain ⟨h', g2, d', tk', os'⟩ := s'
      obtain rfl : g2 = s.gens := mv.gens
      obtain rfl : d' = s.drawn := mv.drawn
      obtain rfl : os' = s.os := mv.os
      show wpAny _ _ _ _ _ _
      refine wpAny_pure ?_
      show wpAny _ _ (ret Value.none) _ _ _
      refine wpAny_pure ⟨rfl, h', tk', ks, rfl, T, mem, fun b o e => ?_⟩
      have lb : b < s.heap.objs.size := Heap.lt_size e
      refine mv.heap b o ?_ (Heap.get?_push_of_some _ (Heap.get?_push_of_some _ e))
      simp only [List.mem_cons, List.not_mem_nil, or_false, not_or]
      exact ⟨Nat.ne_of_lt lb, Nat.ne_of_lt (by rw [sz]; exact Nat.lt_succ_of_lt lb)⟩
    · match r2, hr2 with
      | .error e, hr2 => exact hr2
      | .ok (.ret r), hr2 =>
        obtain ⟨rfl, h', tk, ks, rfl, T, mem, kp⟩ := hr2
        repeat (any_goals (first | assumption | wp_step))
        exact k _ _ _ T mem kp
      | .ok .next, hr2 => exact hr2.elim
      | .ok .brk, hr2 => exact hr2.elim
      | .ok .cont, hr2 => exact hr2.elim
  | .ok .next, hr => exact hr.elim
  | .ok .brk, hr => exact hr.elim
  | .ok .cont, hr => exact hr.elim
end
end DL

/-! DL8c: sorted(set(x)) as a rule. -/
namespace DL
open PySem PySem.Spec L2
open PyProof.Rows hiding St

section
variable {P : Program} {w : World} {A : Around} {E : Value → Shared → Prop} {s : Shared} {a : Addr} {ks : List Str}
theorem strs_of : ∀ l : List Value, (∀ v ∈ l, ∃ k u, v = Value.str k u) → ∃ ns, StrsAre l ns ∧ ns = l.map fun v => kOf (0, v)
  | [], _ => ⟨[], .nil, rfl⟩
  | v :: l, h => by
    obtain ⟨k, u, rfl⟩ := h v List.mem_cons_self
    obtain ⟨ns, g, e⟩ := strs_of l fun x hx => h x (List.mem_cons_of_mem _ hx)
    exact ⟨k :: ns, .cons k u g, by rw [e]; rfl⟩
set_option maxHeartbeats 4000000 in
theorem tx_sorted {Q : Value → Shared → Prop} (R : TxS w s.heap a ks) (hh : A.handled = none) (few : ks.length < 64)
    (k : ∀ s' p (out : Array Value) (c : Nat) (ys : List Str), (∀ b o, s.heap.get? b = some o → s'.heap.get? b = some o) → s'.gens = s.gens → s'.os = s.os → s.heap.objs.size ≤ p →
      s'.heap.get? p = some (seqObj "list" out c) → StrsAre out.toList ys → ys.Perm ks → sortedS ys = true → Q (.ref p) s') :
    wpAny (model P w) A (call (.builtin "sorted") [.ref a]) Q E s := by
  obtain ⟨o, es, ep, t, ho, hex, hd, good, pm, nd, small, fit, rises, led⟩ := R
  have size : es.size = ks.length := by
    have q := pm.length_eq
    rw [List.length_map, Array.length_toList] at q
    exact q
  refine Calls.call_function_entry kind_sorted plain_sorted entry_sorted (args_sorted1 _) ?_
  unfold Builtin.«sorted»
  refine wpAny_bind (m := checkCount "sorted" 1 1 _) (wpAny_pure (wpAny_bind (collect_set (A := A.in1) hh ⟨o, ho, hex.1, hd⟩ fit small rises led fun s1 vs kp1 hz g1 o1 p1 => ?_)))
  have lv : vs.length = ks.length := by rw [p1.length_eq, List.length_map, Array.length_toList]; exact size
  obtain ⟨ns, hS, ens⟩ := strs_of vs fun v hv => by
    obtain ⟨e, he, q⟩ := List.mem_map.mp (p1.mem_iff.mp hv)
    obtain ⟨k, u, rfl⟩ := good e he
    exact ⟨k, u, q.symm⟩
  have pn : ns.Perm ks := by
    have q := p1.map fun v => kOf (0, v)
    rw [List.map_map] at q
    rw [ens]
    exact q.trans pm
  refine wpAny_bind (wpAny_newList ?_ (by rw [lv, sizeLine_eq]; omega))
  have hl : (s1.heap.push (seqObj "list" vs.toArray 0)).get? s1.heap.objs.size = some (seqObj "list" vs.toArray 0) := Heap.get?_push_size _ rfl
  refine wpAny_bind (wpAny_holding (wpAny_call_entry slot_list_sort ⟨_, hl, rfl⟩ entry_list_sort (list_sort_treeK strKind_oneLt hl hS.keysOf (fun v1 v2 r e => keyKind_strs (by rw [← e]; exact hS)) (by rw [lv]; exact few) fun st' a1 a2 => ⟨_, rfl, ?_⟩) (args_list_sort _)))
  obtain ⟨ys, h1, h2, h3⟩ := sorted_out_str hS a1 a2
  obtain ⟨c, hc⟩ := sortedHeap_at (vs := vs) (out := _) hl
  refine wpAny_pure ⟨_, rfl, k _ s1.heap.objs.size _ c ys (fun b u e => ?_) g1 o1 hz hc h1 (h2.trans pn) h3⟩
  have q := kp1 b u e
  have lt := Heap.lt_size q
  exact (sortedHeap_old (Nat.ne_of_lt lt) (by rw [size_push']; exact Nat.lt_succ_of_lt lt)).trans (Heap.get?_push_of_some _ q)
end
def TxO (w : World) (a : Addr) (ks : List Str) : HO := .ext fun h => TxS w h a ks
theorem txO_new {w : World} {P : Program} {H : Hp} {h : Heap} {a : Addr} {ks : List Str} (R : TxS w h a ks) : ObjOk P w H h a (TxO w a ks) := by
  have ⟨o, _, _, _, ho, _⟩ := R
  exact ⟨R, ⟨o, ho⟩, fun h1 h2 p k => TxS.at p k⟩
theorem TxS.nodup {w : World} {h : Heap} {a : Addr} {ks : List Str} (R : TxS w h a ks) : ks.Nodup := by
  obtain ⟨_, _, _, _, _, _, _, _, _, nd, _⟩ := R
  exact nd
section
variable {X : Cx} {Y : KJ X.K}
def rSetTx (K : PySem.W.Frag) (w : World) : List V → Hp → VK → Prop := fun vs H Q => ∃ v xs, vs = [v] ∧ ((∃ x, v = .str x ∧ xs = PyProof.Rows.signs x) ∨ ∃ l, v = .ref l ∧ SqL K H l (xs.map V.str)) ∧ Few xs ∧
  ∀ p ks, H p = none → ks.Nodup → (∀ k, k ∈ ks ↔ k ∈ xs) → Q (.ref p) (upd H p (TxO w p ks))
theorem strsA : ∀ {xs : List Str} {us : List Value}, Vals (xs.map V.str) us → StrsAre us xs
  | [], _, .nil => .nil
  | x :: xs, _, .cons h t => by
    obtain ⟨u, rfl⟩ := h
    exact .cons x u (strsA t)
theorem strsA_at : ∀ {xs : List Str} {us : List Value}, Vals (xs.map V.str) us → ∀ (i : Nat) (v : Value), us[i]? = some v → ∃ k t, xs[i]? = some k ∧ v = .str k t
  | [], _, .nil, i, v, h => by simp at h
  | x :: xs, _, .cons ⟨u, e⟩ t, 0, v, h => by
    simp at h
    exact ⟨x, u, rfl, by rw [← h]; exact e⟩
  | x :: xs, _, .cons _ t, i + 1, v, h => strsA_at t i v h
theorem cr_setTx (hc : X.calm = true) : CallR X (.type "set") (rSetTx X.K X.w) := by
  intro pins s σ H vs us Q I r h
  obtain ⟨v, xs, rfl, src, few, q⟩ := h
  rcases src with ⟨x, rfl, rfl⟩ | ⟨l, rfl, hl⟩
  · obtain ⟨u, rfl, ⟨t, rfl⟩⟩ := vals1 r
    refine call_setT (I.ok.hd hc) few fun h' tk ks T mem keep => ?_
    exact ⟨.ref _, upd H s.heap.objs.size (TxO X.w s.heap.objs.size ks), I.laid (t' := tk) keep (Nat.le_refl _) (txO_new T), rfl, q _ ks (I.hok.fresh (Nat.le_refl _)) T.nodup mem⟩
  · obtain ⟨its, rv, pl, _⟩ := I.list hl
    have sa : StrsAre its xs := strsA rv
    rw [Vals.ref1 r]
    refine call_setL (I.ok.hd hc) pl.isList (xs := xs) (fun i v hv => ?_) (by rw [List.size_toArray]; exact StrsAre.len_eq sa) few fun h' tk ks T mem keep => ?_
    · exact strsA_at rv i v (by simpa using hv)
    · exact ⟨.ref _, upd H s.heap.objs.size (TxO X.w s.heap.objs.size ks), I.laid (t' := tk) keep (Nat.le_refl _) (txO_new T), rfl, q _ ks (I.hok.fresh (Nat.le_refl _)) T.nodup mem⟩
def rSortTx (w : World) : List V → Hp → VK → Prop := fun vs H Q => ∃ a ks, vs = [V.ref a] ∧ H a = some (TxO w a ks) ∧ ks.length < 64 ∧
  ∀ (ys : List Str) (p : Addr), ys.Perm ks → sortedS ys = true → H p = none → Q (.ref p) (upd H p (.lst (ys.map V.str)))
theorem cr_sortTx (hc : X.calm = true) : CallR X (.builtin "sorted") (rSortTx X.w) := by
  intro pins s σ H vs us Q I r h
  obtain ⟨a, ks, rfl, ha, few, q⟩ := h
  have R : TxS X.w s.heap a ks := (I.hok a _ ha).1
  rw [Vals.ref1 r]
  refine tx_sorted R (I.ok.hd hc) few fun s1 p out c ys keep gens os hp hg are perm sorted => ?_
  have fits : (ys.map V.str).length ≤ sizeLine := by rw [List.length_map, perm.length_eq, sizeLine_eq]; omega
  have none1 : H p = none := I.hok.fresh hp
  have J : Inv X pins σ (upd H p (.lst (ys.map V.str))) { s with heap := s1.heap, gens := s1.gens, drawn := s1.drawn, toks := s1.toks } :=
    I.call (ch := []) (Un.laid keep hp none1) (I.hok.laid keep hp ⟨fits, out.toList, c, vals_of_strs are, hg⟩) (by rw [gens]; exact I.bare) (fun _ z => nomatch z)
  have e : s1 = { s with heap := s1.heap, gens := s1.gens, drawn := s1.drawn, toks := s1.toks } := by
    cases s1; cases s; cases os; rfl
  rw [e]
  exact ⟨.ref p, _, J, rfl, q ys p perm sorted none1⟩
/-- sorted(set(x)), x a text or a list of texts -/
def dSortSet (fz : Bool) (t : DTE) : DTE := fun ρ M Q => t ρ M fun d M1 => ∃ xs : List Str, ((∃ x, d = .str x ∧ xs = PyProof.Rows.signs x) ∨ lstOf M1 d = some (xs.map DL.D.str)) ∧ Few xs ∧
  ∀ ys : List Str, ys.Nodup → (∀ k, k ∈ ys ↔ k ∈ xs) → sortedS ys = true → newL fz (ys.map DL.D.str) M1 Q
variable {e : Expr} {t : DTE} {p p1 p2 pos : Pos}
theorem de_sortSet (fz : Bool) (m1 : X.mg "sorted" = none) (m2 : X.mg "set" = none) (he : DE X Y e t) (hc : X.calm = true := by rfl) (g1 : Gl X "sorted" := by rfl) (g2 : Gl X "set" := by rfl)
    (na : starEach [e] X.env = (false, eval e X.env) :: starEach [] X.env := by rfl) (nb : (backTo p2 (starEach [] X.env)).any (·.1) = false := by rfl)
    (na2 : starEach [.Call (.Name "set" p1) [e] [] p2] X.env = (false, eval (.Call (.Name "set" p1) [e] [] p2) X.env) :: starEach [] X.env := by rfl) (nb2 : (backTo pos (starEach [] X.env)).any (·.1) = false := by rfl) :
    DE X Y (.Call (.Name "sorted" p) [.Call (.Name "set" p1) [e] [] p2] [] pos) (dSortSet fz t) := by
  have b1 : bootBuiltins "sorted" = some (.builtin "sorted") := by decide +kernel
  have b2 : bootBuiltins "set" = some (.type "set") := by decide +kernel
  refine PE.weak (pe_callB (cr_sortTx hc) g1 m1 b1 (pa_cons (pe_callTy (cr_setTx hc) g2 m2 b2 (pa_cons he pa_nil na) (by decide) (by decide) na nb) pa_nil na2) (by decide) (by decide) na2 nb2) ?_
  rintro σ H Q0 ⟨F, M, ρ, Q, rs, rl, q, k⟩
  refine ⟨F, M, ρ, _, rs, rl, q, fun v d F1 M1 H1 s1 rp ⟨xs, src, few, q1⟩ => ?_⟩
  have go : ∀ p ks, H1 p = none → ks.Nodup → (∀ k, k ∈ ks ↔ k ∈ xs) → rSortTx X.w [.ref p] (upd H1 p (TxO X.w p ks)) Q0 := by
    intro p ks hp nd mem
    have s2 := s1.rel.newF hp (TxO X.w p ks)
    refine ⟨p, ks, rfl, upd_same, few ks nd fun k hk => (mem k).mp hk, fun ys p' pm so hp' => ?_⟩
    have g := q1 ys (pm.nodup_iff.mpr nd) (fun k => (pm.mem_iff).trans (mem k)) so
    exact newL_ok s2.rel (of_strs ys) g (fun v z F' M' H' s3 => k v z F' M' H' ((s1.trans s2).trans s3)) p' hp'
  rcases src with ⟨x, rfl, rfl⟩ | src
  · cases rp
    exact ⟨_, _, rfl, .inl ⟨x, rfl, rfl⟩, few, go⟩
  · obtain ⟨a, vs, rfl, h1, ra⟩ := lstOf_rp s1.rel rp src
    rw [rp_strs ra] at h1
    exact ⟨_, xs, rfl, .inr ⟨a, rfl, h1⟩, few, go⟩
end
end DL

/-! DL9: sorted of texts, list(text), a constant dict, slices with a step. -/
namespace DL
open PySem PySem.Spec L2
open PyProof.Rows hiding St

section
variable {X : Cx} {Y : KJ X.K} {pos p p1 p2 p3 : Pos} {a b e : Expr} {t u : DTE}
/-- sorted(a list of texts), fewer than 64 -/
def rSortD (fz : Bool) : RDL := fun ds M Q => ∃ (d : DL.D) (xs : List Str), ds = [d] ∧ lstOf M d = some (xs.map DL.D.str) ∧ xs.length < 64 ∧
  ∀ ys : List Str, ys.Perm xs → sortedS ys = true → newL fz (ys.map DL.D.str) M Q
theorem cd_sort (fz : Bool) : CallD X Y (.builtin "sorted") (rSortD fz) := by
  intro pins s σ H vs us Q0 I r ⟨F, M, ds, Q, rp, rl, ⟨d, xs, e, e1, few, q⟩, k⟩
  subst e
  obtain ⟨v, rfl, r1⟩ := rp1 rp
  obtain ⟨l, ws, rfl, h1, ra⟩ := lstOf_rp rl r1 e1
  rw [rp_strs ra] at h1
  exact cr_sortedS pins s σ H _ us Q0 I r ⟨l, xs, rfl, h1, few, fun ys n pm so hn => newL_ok rl (of_strs ys) (q ys pm so) k n hn⟩
/-- list(a text) -/
def rListS (fz : Bool) : RDL := fun ds M Q => ∃ x : Str, ds = [.str x] ∧ x.cps.size ≤ sizeLine ∧ newL fz (signs x) M Q
theorem signs_rp {K : PySem.W.Frag} {F : Hp} (x : Str) : RpAll K F (x.cps.toList.map fun c => V.str ⟨#[c]⟩) (signs x) := by
  unfold signs
  generalize x.cps.toList = l
  induction l with
  | nil => exact .nil
  | cons c l ih => exact .cons (.str _) ih
theorem cd_listS (fz : Bool) (hc : X.calm = true) : CallD X Y (.type "list") (rListS fz) := by
  intro pins s σ H vs us Q0 I r ⟨F, M, ds, Q, rp, rl, ⟨x, e, small, q⟩, k⟩
  subst e
  obtain ⟨v, rfl, r1⟩ := rp1 rp
  cases r1
  obtain ⟨u, rfl, ⟨t, rfl⟩⟩ := vals1 r
  refine call_list_str (I.ok.hd hc) x t (hn := small) fun h' tk acc c keep at1 ⟨len, are⟩ => ?_
  have vals : Vals (x.cps.toList.map fun c => V.str ⟨#[c]⟩) acc.toList := by
    refine vals_of_at (by simp [len]) fun i v w hv hw => ?_
    rw [Array.getElem?_toList] at hw
    obtain ⟨c, t, hc, rfl⟩ := are i w hw
    rw [List.getElem?_map, Array.getElem?_toList, hc] at hv
    cases hv
    exact ⟨t, rfl⟩
  refine ⟨.ref _, upd H s.heap.objs.size (.lst (x.cps.toList.map fun c => V.str ⟨#[c]⟩)), I.laid (t' := tk) keep (Nat.le_refl _) ⟨?_, acc.toList, c, vals, ?_⟩, rfl, newL_ok rl (signs_rp x) q k _ (I.hok.fresh (Nat.le_refl _))⟩
  · rw [List.length_map, Array.length_toList]; exact small
  · exact at1
end
end DL

/-! DL10: slices with a step, a constant dict. -/
namespace DL
open PySem PySem.Spec L2
open PyProof.Rows hiding St

/-! ### lists -/
theorem fm_congr {α β : Type} {f g : α → Option β} : ∀ {l : List α}, (∀ k ∈ l, f k = g k) → l.filterMap f = l.filterMap g
  | [], _ => rfl
  | x :: l, h => by
    have ih := fm_congr (l := l) fun k hk => h k (List.mem_cons_of_mem _ hk)
    rw [List.filterMap_cons, List.filterMap_cons, h x List.mem_cons_self, ih]
/-- every other item, from the first -/
def ev {α : Type} : List α → List α
  | [] => []
  | [x] => [x]
  | x :: _ :: r => x :: ev r
theorem ev_pick {α : Type} : ∀ l : List α, ((List.range ((l.length + 1) / 2)).map fun k => 2 * k).filterMap (l[·]?) = ev l
  | [] => by simp [ev]
  | [x] => by simp [ev]
  | x :: y :: r => by
    have ih := ev_pick r
    have e : ((x :: y :: r).length + 1) / 2 = (r.length + 1) / 2 + 1 := by simp only [List.length_cons]; omega
    rw [e, List.range_succ_eq_map, List.map_cons, List.map_map, List.filterMap_cons]
    show x :: _ = x :: ev r
    rw [← ih, List.filterMap_map, List.filterMap_map]
    refine congrArg (x :: ·) (fm_congr fun k _ => ?_)
    show (x :: y :: r)[2 * (k + 1)]? = r[2 * k]?
    rw [show 2 * (k + 1) = 2 * k + 1 + 1 by omega, List.getElem?_cons_succ, List.getElem?_cons_succ]
theorem back_pick {α : Type} : ∀ l : List α, ((List.range l.length).map fun k => l.length - 1 - k).filterMap (l[·]?) = l.reverse := by
  intro l
  generalize hm : l.reverse = m
  have hl : l = m.reverse := by rw [← hm, List.reverse_reverse]
  subst hl
  clear hm
  induction m with
  | nil => rfl
  | cons x m ih =>
    rw [List.filterMap_map] at ih ⊢
    rw [List.length_reverse] at ih ⊢
    rw [List.length_cons, List.range_succ_eq_map, List.filterMap_cons, List.filterMap_map]
    have e0 : ((fun i => (x :: m).reverse[i]?) ∘ fun k => m.length + 1 - 1 - k) 0 = some x := by
      show (x :: m).reverse[m.length + 1 - 1 - 0]? = some x
      rw [List.reverse_cons, List.getElem?_append_right (by rw [List.length_reverse]; omega), List.length_reverse]
      simp
    rw [e0]
    refine congrArg (x :: ·) (Eq.trans (fm_congr fun k hk => ?_) ih)
    have hk' := List.mem_range.mp hk
    show (x :: m).reverse[m.length + 1 - 1 - (k + 1)]? = m.reverse[m.length - 1 - k]?
    rw [List.reverse_cons, List.getElem?_append_left (by rw [List.length_reverse]; omega)]
    exact congrArg (m.reverse[·]?) (by omega)
theorem rng_two (n : Nat) : sliceRange 0 (n : Int) 2 = (List.range ((n + 1) / 2)).map fun k => 2 * k := by
  unfold sliceRange
  by_cases h : (0 : Int) < (n : Int)
  · have e : (((n : Int) - 0 + 2 - 1) / 2).toNat = (n + 1) / 2 := by omega
    simp only [show (2 : Int) > 0 from by decide, if_true, h, e]
    exact List.map_congr_left fun k _ => by omega
  · obtain rfl : n = 0 := by omega
    simp
theorem rng_odd (n : Nat) : sliceRange (min 1 (n : Int)) (n : Int) 2 = (List.range (((n - 1) + 1) / 2)).map fun k => 2 * k + 1 := by
  unfold sliceRange
  by_cases h : (1 : Int) < (n : Int)
  · have e1 : min (1 : Int) (n : Int) = 1 := by omega
    have e : (((n : Int) - 1 + 2 - 1) / 2).toNat = (n - 1 + 1) / 2 := by omega
    rw [e1]
    simp only [show (2 : Int) > 0 from by decide, if_true, h, e]
    exact List.map_congr_left fun k _ => by omega
  · rcases (show n = 0 ∨ n = 1 by omega) with rfl | rfl <;> rfl
theorem rng_back (n : Nat) : sliceRange ((n : Int) - 1) (-1) (-1) = (List.range n).map fun k => n - 1 - k := PySem.W.krv_sliceRange n
theorem pick_ev (its : Array Value) : slicePick its none none (some 2) = (ev its.toList).toArray := by
  have b : sliceBounds none none (some 2) its.size = (0, (its.size : Int), 2) := by first | rfl | simp [sliceBounds]
  unfold slicePick
  rw [b]
  show ((sliceRange 0 (its.size : Int) 2).filterMap (its[·]?)).toArray = _
  rw [rng_two, ← ev_pick its.toList, Array.length_toList]
  simp only [Array.getElem?_toList]
theorem pick_od (its : Array Value) : slicePick its (some 1) none (some 2) = (ev its.toList.tail).toArray := by
  have b : sliceBounds (some 1) none (some 2) its.size = (min 1 (its.size : Int), (its.size : Int), 2) := by
    simp only [sliceBounds]
    first | rfl | (simp; omega) | simp
  unfold slicePick
  rw [b]
  show ((sliceRange (min 1 (its.size : Int)) (its.size : Int) 2).filterMap (its[·]?)).toArray = _
  have l : its.toList.tail.length = its.size - 1 := by simp
  rw [rng_odd, ← ev_pick its.toList.tail, l, List.filterMap_map, List.filterMap_map]
  refine congrArg _ (fm_congr fun k _ => ?_)
  show its[2 * k + 1]? = its.toList.tail[2 * k]?
  rw [List.getElem?_tail, Array.getElem?_toList]
theorem RpAll.ev {K : PySem.W.Frag} {F : Hp} : ∀ {vs : List V} {ds : List DL.D}, RpAll K F vs ds → RpAll K F (DL.ev vs) (DL.ev ds)
  | _, _, .nil => .nil
  | _, _, .cons h .nil => .cons h .nil
  | _, _, .cons h (.cons _ t) => .cons h (RpAll.ev t)
theorem vals_ev : ∀ {vs : List V} {us : List Value}, Vals vs us → Vals (DL.ev vs) (DL.ev us)
  | _, _, .nil => .nil
  | _, _, .cons h .nil => .cons h .nil
  | _, _, .cons h (.cons _ t) => .cons h (vals_ev t)
theorem ev_length {α : Type} : ∀ l : List α, (ev l).length = (l.length + 1) / 2
  | [] => by simp [ev]
  | [_] => by simp [ev]
  | _ :: _ :: r => by
    show (ev r).length + 1 = (r.length + 1 + 1 + 1) / 2
    rw [ev_length r]; omega
theorem ev_mem {α : Type} {x : α} : ∀ {l : List α}, x ∈ ev l → x ∈ l
  | [], h => h
  | [_], h => h
  | y :: _ :: r, h => by
    cases List.mem_cons.mp h with
    | inl e => rw [e]; exact List.mem_cons_self
    | inr e => exact List.mem_cons_of_mem _ (List.mem_cons_of_mem _ (ev_mem e))
theorem vals_tail {vs : List V} {us : List Value} (h : Vals vs us) : Vals vs.tail us.tail := by
  cases h with
  | nil => exact .nil
  | cons a b => exact b
theorem RpAll.tail {K : PySem.W.Frag} {F : Hp} {vs : List V} {ds : List DL.D} (h : RpAll K F vs ds) : RpAll K F vs.tail ds.tail := by
  cases h with
  | nil => exact .nil
  | cons a b => exact b

/-! ### the slice -/
section
variable {X : Cx} {Y : KJ X.K} {pos p p1 p2 p3 : Pos} {a b e st : Expr} {t u : DTE} {lo hi : Option Expr}
/-- what holds of x[lo:hi:st] when its parts are known -/
def Sl3R (X : Cx) (l h k : Option Int) (r : V → Hp → VK → Prop) : Prop :=
  ∀ (pins : List (Addr × Obj)) (s : Shared) (σ : St) (H : Hp) (x : V) (v vl vu vs : Value) (sl : Addr) (Q : VK), Inv X pins σ H s → RelV x v → s.heap.IsSliceOf sl vl vu vs → IsPart vl l → IsPart vu h → IsPart vs k → r x H Q →
    ∃ T id, typeLookup (.type T) "__getitem__" = pure (some (.builtin id)) ∧ s.TypeIs v T ∧ wpAny (model X.prog X.w) X.A (getItem v (.ref sl)) (EP X pins σ Q) X.xe s
theorem pe_slice3 {l h : Option Int} {k : Int} {r : V → Hp → VK → Prop} {te : TE} (hr : Sl3R X l h (some k) r) (he : PE X e te) (hl : PO X lo (fun _ H Q => Q l H)) (hu : PO X hi (fun _ H Q => Q h H)) (hs : PO X (some st) (fun _ H Q => Q (some k) H)) :
    PE X (.Subscript e (.Slice lo hi (some st) p2) pos) (fun σ H Q => te σ H fun x H1 => r x H1 Q) := by
  refine ⟨fun pins s σ H Q I q => Subscript_ (thn (he.run pins s σ H _ I q) fun v s1 ⟨x, H1, I1, r1, q1⟩ => ?_)⟩
  refine wpAny_Slice (thn (hl.run pins s1 σ H1 (fun o H2 => o = l ∧ H2 = H1) I1 ⟨rfl, rfl⟩) fun vl s2 ⟨_, H2, I2, pl, el, e2⟩ => ?_)
  subst el e2
  refine thn (hu.run pins s2 σ H2 (fun o H3 => o = h ∧ H3 = H2) I2 ⟨rfl, rfl⟩) fun vu s3 ⟨_, H3, I3, pu, eu, e3⟩ => ?_
  subst eu e3
  refine thn (hs.run pins s3 σ H3 (fun o H4 => o = some k ∧ H4 = H3) I3 ⟨rfl, rfl⟩) fun vs s4 ⟨_, H4, I4, ps, es, e4⟩ => ?_
  subst es e4
  have I5 : Inv X pins σ H4 { s4 with heap := s4.heap.push { cls := .type "slice", data := .fields #[vl, vu, vs] } } := I4.kept (t' := s4.toks) fun b ob z => Heap.get?_push_of_some _ z
  obtain ⟨T, id, hT, ht, hg⟩ := hr pins _ σ H4 x v vl vu vs s4.heap.objs.size Q I5 r1 (Heap.IsSliceOf.new _ vl vu vs) pl pu ps q1
  show wpAny (model X.prog X.w) X.A (subscriptTail e (.Slice lo hi (some st) p2) v (.ref s4.heap.objs.size)) (EP X pins σ Q) X.xe _
  exact tail_any (ops := [v, .ref s4.heap.objs.size]) ht hT hg (by with_unfolding_all rfl)
theorem po_c (i : Int) {c : Expr} (h : PE X c (tC (.int i))) : PO X (some c) (fun _ H Q => Q (some i) H) := by
  refine ⟨fun pins s σ H Q I q => ?_⟩
  exact (po_some h).run pins s σ H Q I ⟨i, rfl, q⟩
theorem po_n : PO X none (fun _ H Q => Q none H) := ⟨fun pins s σ H Q I q => po_none.run pins s σ H Q I q⟩
theorem sl3_list {l h : Option Int} {k : Int} {f : List V → List V} {g : List Value → List Value} (k0 : k ≠ 0) (hf : ∀ its : List Value, slicePick its.toArray l h (some k) = (g its).toArray) (hv : ∀ {vs us}, Vals vs us → Vals (f vs) (g us)) (hz : ∀ vs, (f vs).length ≤ vs.length) :
    Sl3R X l h (some k) (fun x H Q => ∃ a xs, x = .ref a ∧ SqL X.K H a xs ∧ ∀ p, H p = none → Q (.ref p) (upd H p (.lst (f xs)))) := by
  rintro pins s σ H x v vl vu vs sl Q I rx hs pl pu ps ⟨a, xs, rfl, hx, q⟩
  cases rx
  obtain ⟨its, r, ht, small⟩ := I.list hx
  have len := r.length
  refine ⟨"list", _, slot_list_getitem.lookup, ht.isList.typeIs, ?_⟩
  refine wpAny_getItem_list_slice ht.isList hs pl pu ps (fun z => k0 (Option.some.inj z)) ?_ (by rw [List.size_toArray]; omega)
  rw [hf]
  refine ⟨.ref _, _, I.laid (t' := s.toks) (o := .lst (f xs)) (fun b ob z => Heap.get?_push_of_some _ z) (Nat.le_refl _) ?_, rfl, q _ (I.hok.fresh (Nat.le_refl _))⟩
  exact ⟨Nat.le_trans (hz xs) small, _, 0, hv r, Heap.get?_push_size _ rfl⟩
/-- x[::2], x[1::2] of a list -/
def dEv (fz : Bool) (f : List DL.D → List DL.D) (t : DTE) : DTE := fun ρ M Q => t ρ M fun d M1 => ∃ xs, lstOf M1 d = some xs ∧ newL fz (f xs) M1 Q
theorem can_ev {fz : Bool} {f : List DL.D → List DL.D} {g : List V → List V} (hr : ∀ {F vs ds}, RpAll X.K F vs ds → RpAll X.K F (g vs) (f ds)) {σ : St} {H : Hp} {Q0 : VK} (q : canE Y (dEv fz f t) σ H Q0) :
    canE Y t σ H fun x H1 => ∃ a xs, x = .ref a ∧ SqL X.K H1 a xs ∧ ∀ p, H1 p = none → Q0 (.ref p) (upd H1 p (.lst (g xs))) := by
  obtain ⟨F, M, ρ, Q, rs, rl, q, k⟩ := q
  refine ⟨F, M, ρ, _, rs, rl, q, fun v d F1 M1 H1 s1 rp ⟨xs, e1, q1⟩ => ?_⟩
  obtain ⟨l, vs, rfl, h1, ra⟩ := lstOf_rp s1.rel rp e1
  exact ⟨l, vs, rfl, h1, fun p hp => newL_ok s1.rel (hr ra) q1 (fun v z F' M' H' s => k v z F' M' H' (s1.trans s)) p hp⟩
theorem de_step2_0 (fz : Bool) {kd : Nat} (he : DE X Y e t) : DE X Y (.Subscript e (.Slice none none (some (.Constant (.int 2) kd p1)) p2) pos) (dEv fz ev t) := by
  refine PE.weak (pe_slice3 (sl3_list (f := ev) (g := ev) (by decide) (fun its => pick_ev its.toArray) vals_ev (fun vs => by rw [ev_length]; omega)) he po_n po_n (po_c 2 pe_int)) fun σ H Q0 q => can_ev RpAll.ev q
theorem de_step2_1 (fz : Bool) {kd kd2 : Nat} (he : DE X Y e t) : DE X Y (.Subscript e (.Slice (some (.Constant (.int 1) kd2 p3)) none (some (.Constant (.int 2) kd p1)) p2) pos) (dEv fz (fun xs => ev xs.tail) t) := by
  refine PE.weak (pe_slice3 (sl3_list (f := fun xs => ev xs.tail) (g := fun xs => ev xs.tail) (by decide) (fun its => pick_od its.toArray) (fun r => vals_ev (vals_tail r)) (fun vs => by rw [ev_length, List.length_tail]; omega)) he (po_c 1 pe_int) po_n (po_c 2 pe_int)) fun σ H Q0 q => can_ev (fun r => r.tail.ev) q
end
/-! ### x[::-1] of a tuple, of a text -/
theorem getItem_tuple_back {P : Program} {w : World} {A : Around} {E : Value → Shared → Prop} {s : Shared} {t sl : Addr} {items : Array Value} {vl vu vs : Value} {Q : Value → Shared → Prop} (ht : IsTup s.heap t items) (hs : s.heap.IsSliceOf sl vl vu vs) (pl : IsPart vl none) (pu : IsPart vu none) (pk : IsPart vs (some (-1)))
    (small : items.size ≤ sizeLine) (h : Q (.ref s.heap.objs.size) { s with heap := s.heap.push { cls := .type "tuple", data := .seq items.toList.reverse.toArray } }) : wpAny (model P w) A (getItem (.ref t) (.ref sl)) Q E s := by
  obtain ⟨os, hos, hcs, hds⟩ := id hs
  have isSl : s.TypeIs (.ref sl) "slice" := ⟨os, hos, hcs⟩
  unfold getItem
  try with_reducible refine wpAny_holding ?_
  first | refine wpAny_bind (wpAny_pure ?_) | skip
  refine wpAny_bind (wpAny_sequenceKey ht.typeIs (by decide) (wpAny_bind (wpAny_callSpecial?_slot (name := Str.ofString "__getitem__") ht.typeIs PyProof.Rows.slot_tuple_getitem
    (wpAny_call_entry PyProof.Rows.slot_tuple_getitem ht.typeIs entry_tuple_getitem ?_ (args_tuple_getitem _ _)))))
  refine wpAny_bind (m := Builtin.Tuple.tupleItemsOf (.ref t)) (tupleItemsOf_ ht (wpAny_bind (wpAny_typeOf isSl ?_)))
  rw [if_pos (by decide)]
  have places : Builtin.Slice.slicePlaces ((items.size : Int) - 1) (-1) (-1) = items.size := by
    unfold Builtin.Slice.slicePlaces
    by_cases z : (items.size : Int) - 1 > -1
    · simp only [show ¬ ((-1 : Int) > 0) from by decide, if_false, z, if_true]
      rw [show (- -1 : Int) = 1 from rfl, Int.ediv_one]
      omega
    · simp only [show ¬ ((-1 : Int) > 0) from by decide, if_false, z]
      omega
  refine wpAny_bind (m := Builtin.Slice.sliceApplied (.ref sl) (pure (items.size : Int))) ?_
  unfold Builtin.Slice.sliceApplied Builtin.Slice.sliceFields
  refine wpAny_bind (wpAny_bind (wpAny_field hos hds (x := vl) rfl (wpAny_bind (wpAny_field hos hds (x := vu) rfl (wpAny_bind (wpAny_field hos hds (x := vs) rfl (wpAny_pure ?_)))))))
  refine wpAny_bind (HT.slicePart_ pk ?_)
  show wpAny _ _ (if ((-1 : Int) == 0) = true then _ else _) _ _ s
  rw [if_neg (by decide)]
  refine wpAny_bind (HT.slicePart_ pl (wpAny_bind (HT.slicePart_ pu (wpAny_bind (wpAny_pure ?_)))))
  have adj : Builtin.Slice.sliceAdjust none none (-1) (items.size : Int) = ((items.size : Int) - 1, -1) := by first | rfl | simp [Builtin.Slice.sliceAdjust]
  show wpAny _ _ (match Builtin.Slice.sliceAdjust none none (-1) (items.size : Int) with | (lo, hi) => pure (lo, (-1 : Int), Builtin.Slice.slicePlaces lo hi (-1))) _ _ s
  rw [adj]
  show wpAny _ _ (pure ((items.size : Int) - 1, (-1 : Int), Builtin.Slice.slicePlaces ((items.size : Int) - 1) (-1) (-1))) _ _ s
  rw [places]
  refine wpAny_pure ?_
  have notAll : ¬ ((((items.size : Int) - 1) == 0 && (-1 : Int) == 1 && items.size == items.size) = true) := by
    intro z
    rw [Bool.and_eq_true, Bool.and_eq_true] at z
    exact absurd z.1.2 (by decide)
  show wpAny _ _ (if (((items.size : Int) - 1) == 0 && (-1 : Int) == 1 && items.size == items.size) = true then _ else _) _ _ s
  have picked : ((List.range items.size).filterMap fun (m : Nat) => items[((items.size : Int) - 1 + (m : Int) * -1).toNat]?).toArray = items.toList.reverse.toArray := by
    have q := back_pick items.toList
    rw [List.filterMap_map, Array.length_toList] at q
    rw [← q]
    refine congrArg _ (fm_congr fun m hm => ?_)
    show _ = items.toList[items.size - 1 - m]?
    rw [Array.getElem?_toList]
    exact congrArg (items[·]?) (by omega)
  rw [if_neg notAll, picked]
  have fits : sizeOk (.seq items.toList.reverse.toArray) := by
    show items.toList.reverse.toArray.size ≤ sizeLine
    rw [List.size_toArray, List.length_reverse, Array.length_toList]; exact small
  first
    | exact wpAny_bind (m := Builtin.Tuple.tupleExact _) (wpAny_newObj_type (wpAny_pure ⟨_, rfl, wpAny_pure h⟩) fits)
    | exact wpAny_bind (m := Builtin.Tuple.tupleExact _) (wpAny_newObj_type (wpAny_bind (wpAny_pure (wpAny_pure ⟨_, rfl, wpAny_pure h⟩))) fits)
    | exact wpAny_bind (wpAny_bind (m := Builtin.Tuple.tupleExact _) (wpAny_newObj_type (wpAny_pure (wpAny_pure ⟨_, rfl, wpAny_pure h⟩)) fits))
    | exact wpAny_bind (wpAny_bind (m := Builtin.Tuple.tupleExact _) (wpAny_newObj_type (wpAny_pure ⟨_, rfl, wpAny_pure h⟩) fits))
theorem sl3_tupB {X : Cx} {Y : KJ X.K} : Sl3R X none none (some (-1)) (fun x H Q => ∃ a xs, x = .ref a ∧ SqT X.K H a xs ∧ ∀ p, H p = none → Q (.ref p) (upd H p (.tup xs.reverse))) := by
  rintro pins s σ H x v vl vu vs sl Q I rx hs pl pu ps ⟨a, xs, rfl, hx, q⟩
  cases rx
  obtain ⟨its, r, ht, small⟩ := I.tuple hx
  have len := r.length
  refine ⟨"tuple", _, PyProof.Rows.slot_tuple_getitem.lookup, ht.typeIs, ?_⟩
  refine getItem_tuple_back ht hs pl pu ps (by rw [List.size_toArray]; omega) ?_
  refine ⟨.ref s.heap.objs.size, _, I.laid (t' := s.toks) (o := .tup xs.reverse) (fun b ob z => Heap.get?_push_of_some _ z) (Nat.le_refl _) ?_, rfl, q _ (I.hok.fresh (Nat.le_refl _))⟩
  exact ⟨by rw [List.length_reverse]; exact small, _, r.reverse, IsTup.new _ _⟩
def revT (z : Str) : Str := ⟨z.cps.toList.reverse.toArray⟩
theorem sl3_strB {X : Cx} {Y : KJ X.K} : Sl3R X none none (some (-1)) (fun x H Q => ∃ z, x = .str z ∧ z.length ≤ sizeLine ∧ Q (.str (revT z)) H) := by
  rintro pins s σ H x v vl vu vs sl Q I rx hs pl pu ps ⟨z, rfl, small, q⟩
  obtain ⟨t, rfl⟩ := rx
  obtain ⟨os, hos, hcs, hds⟩ := hs
  obtain ⟨l, rfl, el⟩ := IsPart.raw pl
  obtain ⟨u, rfl, eu⟩ := IsPart.raw pu
  obtain ⟨k, rfl, ek⟩ := IsPart.raw ps
  refine ⟨"str", _, F.slot_str_getitem.lookup, typeIs_str _ _ _, ?_⟩
  refine wpAny_getItem_str_slice (l := l) (u := u) (st := k) ⟨os, hos, hcs, hds⟩ (by rw [ek]; rfl) ?_
  have e : slicePicked z l u k = (List.range z.cps.toList.length).map fun k => z.cps.toList.length - 1 - k := by
    unfold slicePicked
    rw [el, eu, ek, Array.length_toList]
    exact rng_back z.cps.size
  have made : sliceMade z t l u k = .str (revT z) := by
    unfold sliceMade
    rw [ek]
    rw [if_neg (by simp), e]
    unfold revT
    rw [← back_pick z.cps.toList]
    simp only [Array.getElem?_toList]
  rw [made]
  refine ⟨?_, ⟨.str (revT z), H, I.tok _, ⟨_, rfl⟩, q⟩⟩
  show z.cps.toList.reverse.toArray.size ≤ sizeLine
  rw [List.size_toArray, List.length_reverse, Array.length_toList]; exact small
end DL

/-! DL11: x[::-1]; a constant dict of numbers by texts. -/
namespace DL
open PySem PySem.Spec L2
open PyProof.Rows hiding St

section
variable {X : Cx} {Y : KJ X.K} {pos p p1 p2 p3 : Pos} {a b e st : Expr} {t u : DTE}
def rRev (fz : Bool) : DL.D → Mp → DK → Prop
  | .str z, M, Q => z.length ≤ sizeLine ∧ Q (.str (revT z)) M
  | .tup xs, M, Q => Q (.tup xs.reverse) M
  | x, M, Q => ∃ xs, lstOf M x = some xs ∧ newL fz xs.reverse M Q
def dRevS (fz : Bool) (t : DTE) : DTE := fun ρ M Q => t ρ M fun d M1 => rRev fz d M1 Q
theorem Sl3R.or {l h k : Option Int} {r1 r2 : V → Hp → VK → Prop} (a : Sl3R X l h k r1) (b : Sl3R X l h k r2) : Sl3R X l h k (fun x H Q => r1 x H Q ∨ r2 x H Q) := by
  intro pins s σ H x v vl vu vs sl Q I rx hs pl pu ps q
  rcases q with q | q
  · exact a pins s σ H x v vl vu vs sl Q I rx hs pl pu ps q
  · exact b pins s σ H x v vl vu vs sl Q I rx hs pl pu ps q
theorem de_revS (fz : Bool) {kd : Nat} (he : DE X Y e t) : DE X Y (.Subscript e (.Slice none none (some (.UnaryOp .USub (.Constant (.int 1) kd p1) p3)) p2) pos) (dRevS fz t) := by
  have hst : PO X (some (.UnaryOp .USub (.Constant (.int 1) kd p1) p3)) (fun _ H Q => Q (some (-1)) H) := by
    refine ⟨fun pins s σ H Q I q => ?_⟩
    exact (po_some (pe_un un_neg pe_int)).run pins s σ H Q I ⟨1, rfl, -1, rfl, q⟩
  have hl : Sl3R X none none (some (-1)) (fun x H Q => ∃ a xs, x = .ref a ∧ SqL X.K H a xs ∧ ∀ p, H p = none → Q (.ref p) (upd H p (.lst xs.reverse))) :=
    sl3_list (f := List.reverse) (g := List.reverse) (by decide) (fun its => PySem.W.krv_pick its.toArray) (fun r => r.reverse) (fun vs => by rw [List.length_reverse]; exact Nat.le_refl _)
  refine PE.weak (pe_slice3 (hl.or ((sl3_tupB (Y := Y)).or (sl3_strB (Y := Y)))) he po_n po_n hst) ?_
  rintro σ H Q0 ⟨F, M, ρ, Q, rs, rl, q, k⟩
  refine ⟨F, M, ρ, _, rs, rl, q, fun v d F1 M1 H1 s1 rp q1 => ?_⟩
  have k1 : ∀ v d F' M' H', Stp Y F1 M1 H1 F' M' H' → Rp X.K F' v d → Q d M' → Q0 v H' := fun v d F' M' H' s => k v d F' M' H' (s1.trans s)
  unfold rRev at q1
  split at q1
  · cases rp
    exact .inr (.inr ⟨_, rfl, q1.1, k1 _ _ F1 M1 H1 (Stp.refl s1.rel) (.str _) q1.2⟩)
  · cases rp with
    | tup sq ra =>
      exact .inr (.inl ⟨_, _, rfl, Same.tseq s1.rel.sub sq, fun p hp => newT_ok s1.rel ra.reverse q1 k1 p hp⟩)
  · obtain ⟨xs, e1, q1⟩ := q1
    obtain ⟨p, vs, rfl, h1, ra⟩ := lstOf_rp s1.rel rp e1
    exact .inl ⟨p, vs, rfl, h1, fun p hp => newL_ok s1.rel ra.reverse q1 k1 p hp⟩

/-! ### a constant dict -/
def kvE (kvs : List (Str × Int)) : List (TE × TE) := kvs.map fun kv => (tC (.str kv.1), tC (.int kv.2))
def kvV (kvs : List (Str × Int)) : List (Key × V) := kvs.map fun kv => (Sum.inr kv.1, V.int kv.2)
theorem tp_const {σ : St} {H : Hp} : ∀ {kvs : List (Str × Int)} {Q : List (V × V) → Hp → Prop}, Q (kvs.map fun kv => (V.str kv.1, V.int kv.2)) H → tPairs (kvE kvs) σ H Q
  | [], _, h => h
  | kv :: kvs, Q, h => tp_const (kvs := kvs) (Q := fun ps H3 => Q ((V.str kv.1, V.int kv.2) :: ps) H3) h
def dDictC (kvs : List (Str × Int)) : DTE := dC (.dct (kvs.map fun kv => Sum.inr kv.1) (kvs.map fun kv => .int kv.2))
theorem zip_kvV : ∀ kvs : List (Str × Int), (kvs.map fun kv => (Sum.inr kv.1 : Key)).zip (kvs.map fun kv => V.int kv.2) = kvV kvs
  | [] => rfl
  | kv :: kvs => by
    rw [List.map_cons, List.map_cons, List.zip_cons_cons, zip_kvV kvs]
    rfl
theorem of_kvV {K : PySem.W.Frag} {F : Hp} : ∀ kvs : List (Str × Int), RpAll K F (kvs.map fun kv => V.int kv.2) (kvs.map fun kv => D.int kv.2)
  | [] => .nil
  | kv :: kvs => .cons (.int _) (of_kvV kvs)
theorem de_dictC {keys : List (Option Expr)} {values : List Expr} (kvs : List (Str × Int)) (h : PPs X pos keys values (kvE kvs)) (hm : mergeK [] (kvV kvs) = kvV kvs) (hall : keys.all (·.isSome) = true := by rfl) (hl : keys.length = values.length := by rfl) (h0 : keys ≠ [] := by simp)
    (h15 : keys.length ≤ 15 := by decide) (few : kvs.length ≤ 15 := by decide) : DE X Y (.Dict keys values pos) (dDictC kvs) := by
  refine PE.weak (pe_disp h hall hl h0 h15) ?_
  rintro σ H Q0 ⟨F, M, ρ, Q, rs, rl, q, k⟩
  intro p hp
  refine tp_const ⟨upd_same, kvV kvs, ?_, by unfold kvV; rw [List.length_map]; exact few, ?_⟩
  · unfold kvV; rw [List.map_map]; rfl
  · rw [hm, L2.upd_upd]
    have s1 := rl.newF hp (.dK (kvV kvs))
    refine k _ _ _ M _ s1 (.dct (ks := kvs.map fun kv : Str × Int => (Sum.inr kv.1 : Key)) (xs := kvs.map fun kv : Str × Int => V.int kv.2) ?_ (by rw [List.length_map, List.length_map]) (of_kvV kvs)) q
    rw [zip_kvV]; exact upd_same
/-- what stands behind a key -/
def lkD (k : Int ⊕ Str) : List (Int ⊕ Str) → List DL.D → Option DL.D
  | j :: ks, d :: ds => if j = k then some d else lkD k ks ds
  | _, _ => none
theorem lk_rp {K : PySem.W.Frag} {F : Hp} (k : Key) : ∀ {ks : List Key} {vs : List V} {ds : List DL.D}, RpAll K F vs ds → ks.length = vs.length →
    (lkD k ks ds = none ∧ valV (ks.zip vs) k = none) ∨ ∃ d v, lkD k ks ds = some d ∧ valV (ks.zip vs) k = some v ∧ Rp K F v d
  | [], _, _, .nil, _ => .inl ⟨rfl, rfl⟩
  | _ :: _, _, _, .nil, h => by simp at h
  | [], _, _, .cons _ _, h => by simp at h
  | j :: ks, v :: vs, d :: ds, .cons a b, h => by
    by_cases e : j = k
    · exact .inr ⟨d, v, if_pos e, valV_pos e, a⟩
    · rcases lk_rp k (ks := ks) b (by simpa using h) with ⟨h1, h2⟩ | ⟨d', v', h1, h2, h3⟩
      · exact .inl ⟨(if_neg e).trans h1, (valV_neg e).trans h2⟩
      · exact .inr ⟨d', v', (if_neg e).trans h1, (valV_neg e).trans h2, h3⟩
def rInDk (neg : Bool) : RD2
  | .str x, .dct ks ds, M, Q => Q (.bl (if neg = true then !(lkD (.inr x) ks ds).isSome else (lkD (.inr x) ks ds).isSome)) M
  | _, _, _, _ => False
def rGetDk : RD2
  | .dct ks ds, .str x, M, Q => ∃ d, lkD (.inr x) ks ds = some d ∧ Q d M
  | _, _, _, _ => False
theorem can_inK {neg : Bool} {σ : St} {H : Hp} {Q0 : VK} (q : canE Y (dOp (rInDk neg) t u) σ H Q0) : canE Y t σ H fun y H1 => canE Y u σ H1 fun x H2 => ∃ a o, x = .ref a ∧ DGet H2 a y o ∧ Q0 (.bl (if neg = true then !o.isSome else o.isSome)) H2 := by
  obtain ⟨F, M, ρ, Q, rs, rl, q, k⟩ := q
  refine ⟨F, M, ρ, _, rs, rl, q, fun y d F1 M1 H1 s1 rp1 q1 => ?_⟩
  refine ⟨F1, M1, ρ, _, rs.mono s1.same, s1.rel, q1, fun x e F2 M2 H2 s2 rp2 q2 => ?_⟩
  unfold rInDk at q2
  split at q2
  · cases rp1
    cases rp2 with
    | dct at1 len ra =>
      refine ⟨_, _, rfl, .inl ⟨_, Sum.inr _, .inl (s2.rel.sub _ _ at1), rfl, rfl⟩, ?_⟩
      have k1 := k _ _ F2 M2 H2 (s1.trans s2) (.bl _) q2
      rcases lk_rp (Sum.inr _) ra len with ⟨h1, h2⟩ | ⟨d', v', h1, h2, h3⟩
      · rw [h1] at k1; rw [h2]; exact k1
      · rw [h1] at k1; rw [h2]; exact k1
  · exact q2.elim
theorem dt_cmpK {n : Nat} (hr : Room n X.A) (ha : DE X Y a t) (hb : DE X Y b u) (hm : behindInMarks .In b = false) : DT X Y (.Compare a [.In] [b] pos) (dB (dOp (rInDk false) t u)) := by
  have hu := hr.units
  refine PT.weak (pt_cmp (pc_din (by omega) ha hb) hm) ?_
  rintro σ H Q0 ⟨F, M, ρ, Q, rs, rl, q, k⟩
  refine can_inK (neg := false) (Q0 := fun x H1 => ∃ c, x = V.bl c ∧ Q0 c H1) ⟨F, M, ρ, _, rs, rl, q, fun v d F1 M1 H1 s1 rp ⟨c, e, q1⟩ => ?_⟩
  subst e
  cases rp
  exact ⟨c, rfl, k c F1 M1 H1 s1 q1⟩
theorem dt_cmpKN {n : Nat} (hr : Room n X.A) (ha : DE X Y a t) (hb : DE X Y b u) (hm : behindInMarks .NotIn b = false) : DT X Y (.Compare a [.NotIn] [b] pos) (dB (dOp (rInDk true) t u)) := by
  have hu := hr.units
  refine PT.weak (pt_cmp (pc_dnotin (by omega) ha hb) hm) ?_
  rintro σ H Q0 ⟨F, M, ρ, Q, rs, rl, q, k⟩
  refine can_inK (neg := true) (Q0 := fun x H1 => ∃ c, x = V.bl c ∧ Q0 c H1) ⟨F, M, ρ, _, rs, rl, q, fun v d F1 M1 H1 s1 rp ⟨c, e, q1⟩ => ?_⟩
  subst e
  cases rp
  exact ⟨c, rfl, k c F1 M1 H1 s1 q1⟩
theorem de_getK {n : Nat} (hr : Room n X.A) (ha : DE X Y a t) (hb : DE X Y b u) (hs : NoSl b := by exact fun _ _ => rfl) : DE X Y (.Subscript a b pos) (dOp rGetDk t u) := by
  have hu := hr.units
  refine PE.weak (pe_dget (by omega) ha hb hs) ?_
  rintro σ H Q0 ⟨F, M, ρ, Q, rs, rl, q, k⟩
  refine ⟨F, M, ρ, _, rs, rl, q, fun x d F1 M1 H1 s1 rp1 q1 => ?_⟩
  refine ⟨F1, M1, ρ, _, rs.mono s1.same, s1.rel, q1, fun y e F2 M2 H2 s2 rp2 q2 => ?_⟩
  unfold rGetDk at q2
  split at q2
  · obtain ⟨d', e1, q2⟩ := q2
    cases rp2
    cases rp1 with
    | dct at1 len ra =>
      rcases lk_rp (Sum.inr _) ra len with ⟨h1, h2⟩ | ⟨d2, v2, h1, h2, h3⟩
      · rw [e1] at h1; cases h1
      · rw [e1] at h1; cases h1
        exact ⟨_, v2, rfl, .inl ⟨_, Sum.inr _, .inl (s2.rel.sub _ _ (s2.same _ _ at1)), rfl, h2.symm⟩, k _ _ F2 M2 H2 (s1.trans s2) (h3.mono s2.same) q2⟩
  · exact q2.elim
end
end DL

/-! DL12: readings of comprehensions and loops by invariants; promises weakened. -/
namespace DL
open PySem PySem.Spec L2
open PyProof.Rows hiding St

/-- each item gives its own value, nothing else happens -/
theorem lc_map {g : DTG} {tt : DTT} {te : DTE} {G : Mp → Prop} {ρ : Rho} {k : List DL.D → Mp → Prop} {M : Mp} (f : DL.D → DL.D) (hG : G M) : ∀ (xs acc : List DL.D),
    (∀ x ∈ xs, ∀ (K1 : DK) (K2 : Mp → Prop), K1 (f x) M → g x ρ M fun ρ2 M2 => tt ρ2 M2 fun b M3 => if b = true then te ρ2 M3 K1 else K2 M3) →
    acc.length + xs.length ≤ sizeLine → k (acc ++ xs.map f) M → lcW g tt te G ρ k xs acc M
  | [], acc, _, _, h => ⟨hG, by simpa using h⟩
  | x :: xs, acc, step, hz, h => by
    refine ⟨hG, step x List.mem_cons_self _ _ ⟨by rw [List.length_cons] at hz; omega, ?_⟩⟩
    exact lc_map f hG xs (acc ++ [f x]) (fun y hy => step y (List.mem_cons_of_mem _ hy)) (by rw [List.length_append]; simp at hz ⊢; omega) (by simpa using h)
/-- the state moves along I, each value has P -/
theorem lc_inv {g : DTG} {tt : DTT} {te : DTE} {G : Mp → Prop} {ρ : Rho} {k : List DL.D → Mp → Prop} (I : Nat → Mp → Prop) (P : DL.D → Prop) (hG : ∀ n M, I n M → G M) : ∀ (xs acc : List DL.D) (M : Mp), I acc.length M → (∀ d ∈ acc, P d) →
    (∀ x ∈ xs, ∀ n M, I n M → n < acc.length + xs.length → ∀ (K1 : DK) (K2 : Mp → Prop), (∀ d M', P d → I (n + 1) M' → K1 d M') → g x ρ M fun ρ2 M2 => tt ρ2 M2 fun b M3 => if b = true then te ρ2 M3 K1 else K2 M3) →
    acc.length + xs.length ≤ sizeLine → (∀ ds M', ds.length = acc.length + xs.length → (∀ d ∈ ds, P d) → I ds.length M' → k ds M') → lcW g tt te G ρ k xs acc M
  | [], acc, M, i, p, _, _, h => ⟨hG _ _ i, h acc M (by simp) p i⟩
  | x :: xs, acc, M, i, p, step, hz, h => by
    refine ⟨hG _ _ i, step x List.mem_cons_self _ _ i (by simp) _ _ fun d M' pd i' => ⟨by rw [List.length_cons] at hz; omega, ?_⟩⟩
    refine lc_inv I P hG xs (acc ++ [d]) M' (by simpa using i') ?_ (fun y hy n M i hn => step y (List.mem_cons_of_mem _ hy) n M i (by simp at hn ⊢; omega)) (by rw [List.length_append]; simp at hz ⊢; omega) (fun ds M2 e q j => h ds M2 (by rw [e]; simp; omega) q j)
    intro d' hd'
    rcases List.mem_append.mp hd' with z | z
    · exact p d' z
    · rw [List.mem_singleton.mp z]; exact pd
/-- a for loop along I -/
theorem for_inv {g : DTG} {tb : DTS} {D : DEnds} {G : Mp → Prop} (I : Nat → Rho → Mp → Prop) (hG : ∀ n ρ M, I n ρ M → G M) : ∀ (xs : List DL.D) (n : Nat) (ρ : Rho) (M : Mp), I n ρ M →
    (∀ x ∈ xs, ∀ m ρ M, I m ρ M → m < n + xs.length → ∀ N : Rho → Mp → Prop, (∀ ρ' M', I (m + 1) ρ' M' → N ρ' M') → g x ρ M fun ρ2 M2 => tb { D with nx := N, ct := N, bk := D.nx } ρ2 M2) →
    (∀ ρ' M', I (n + xs.length) ρ' M' → D.nx ρ' M') → forW g tb D G xs ρ M
  | [], n, ρ, M, i, _, h => ⟨hG _ _ _ i, h ρ M (by simpa using i)⟩
  | x :: xs, n, ρ, M, i, step, h => by
    refine ⟨hG _ _ _ i, step x List.mem_cons_self n ρ M i (by simp) _ fun ρ' M' i' => ?_⟩
    exact for_inv I hG xs (n + 1) ρ' M' i' (fun y hy m ρ M j hm => step y (List.mem_cons_of_mem _ hy) m ρ M j (by simp at hm ⊢; omega)) fun ρ2 M2 j => h ρ2 M2 (by simpa [Nat.add_assoc, Nat.add_comm 1] using j)
/-- what stands in M1 beside M2 is forgotten -/
theorem StpR.forget {K : PySem.W.Frag} {T : TT8} {F F1 : Hp} {M M1 M2 : Mp} {H H1 : Hp} (s : StpR K T F M H F1 M1 H1) (h : ∀ a m, M2 a = some m → M1 a = some m) : StpR K T F M H F1 M2 H1 := by
  refine ⟨s.same, ⟨s.rel.sub, fun a m q => s.rel.mt a m (h a m q), s.rel.nt⟩, fun a o q f m n => ?_, s.tab⟩
  obtain ⟨h1, h2, h3⟩ := s.fr a o q f m n
  refine ⟨h1, h2, ?_⟩
  cases e : M2 a with
  | none => rfl
  | some m2 => rw [h a m2 e] at h3; cases h3
def SubM (M M' : Mp) : Prop := ∀ a m, M a = some m → M' a = some m
theorem SubM.refl (M : Mp) : SubM M M := fun _ _ h => h
theorem SubM.mu {M M' : Mp} (h : SubM M M') {a : Addr} (ha : M a = none) (o : MO) : SubM M (mu M' a o) := fun b m e => by
  have ne : b ≠ a := fun q => by rw [q, ha] at e; cases e
  rw [mu_ne ne]; exact h b m e
theorem SubM.md {M M' : Mp} (h : SubM M M') {a : Addr} (ha : M a = none) : SubM M (md M' a) := fun b m e => by
  have ne : b ≠ a := fun q => by rw [q, ha] at e; cases e
  unfold DL.md; rw [if_neg ne]; exact h b m e
theorem Cal.weak {P : Program} {w : World} {K : PySem.W.Frag} {T : TT8} {mg : Str → Option Value} {base : Heap} {k : Nat} {x : Str} {es : List DL.D} {sp1 sp2 : DSp} (C : Cal P w K T mg base k x es sp1)
    (h : ∀ ds M Q E, sp2 ds M Q E → sp1 ds M (fun d M1 => ∃ M2, SubM M2 M1 ∧ Q d M2) fun x v M1 => ∃ M2, SubM M2 M1 ∧ E x v M2) : Cal P w K T mg base k x es sp2 := by
  obtain ⟨f, fd, ps, dvs, us, G, m, kp, b, vd, rd⟩ := C.ex
  have w : ∀ vs H Q0 E0, lift K T sp2 vs H Q0 E0 → lift K T sp1 vs H Q0 E0 := by
    rintro vs H Q0 E0 ⟨ds, F, M, Q, E, rp, rl, tb, q, k, ke⟩
    refine ⟨ds, F, M, _, _, rp, rl, tb, h ds M Q E q, fun v d F' M' H' s r ⟨M2, sub, q2⟩ => k v d F' M2 H' (s.forget sub) r q2, fun x v cls d F' M' H' s r ⟨M2, sub, q2⟩ => ke x v cls d F' M2 H' (s.forget sub) r q2⟩
  exact ⟨f, fd, ps, dvs, us, ⟨fun z => G.many (w _ _ _ _ z), fun r g e b v z => G.go r g e b v (w _ _ _ _ z)⟩, m, kp, b, vd, rd⟩
theorem dcal {P : Program} {w : World} {K : PySem.W.Frag} {T : TT8} {mg : Str → Option Value} {base : Heap} {x qual : Str} {st : Stmt} {N ps : List Str} {es : List DL.D} {k : Nat} {sp : DSp} (h : Has K mg x qual st ps es) (S : FnScope N ps (defScope st)) {t : DXK → DTS}
    (body : ∀ f, DBody P w K T mg base k N qual st f t) (read : ∀ ds M Q E, sp ds M Q E → ds.length = ps.length ∧ t E { nx := fun _ M' => Q .non M', rt := Q } (dstart N ds) M) : Cal P w K T mg base (k + 1) x es sp := by
  obtain ⟨f, oc, od, dV, kV, doc, pm, an, cdv, ct, osl, us, dvs, lk, hcd, kp, m, b, vd, rd⟩ := h.ex
  exact ⟨f, _, ps, dvs, us, dgn lk hcd S (body f) read, m, kp, b, vd, rd⟩
/-- nothing can be asked of it -/
theorem Cal.none {P : Program} {w : World} {K : PySem.W.Frag} {T : TT8} {mg : Str → Option Value} {base : Heap} {x qual : Str} {st : Stmt} {ps : List Str} {es : List DL.D} {sp : DSp} (h : Has K mg x qual st ps es) (no : ∀ ds M Q E, ¬ sp ds M Q E) : Cal P w K T mg base 0 x es sp := by
  obtain ⟨f, oc, od, dV, kV, doc, pm, an, cdv, ct, osl, us, dvs, lk, hcd, kp, m, b, vd, rd⟩ := h.ex
  refine ⟨f, _, ps, dvs, us, ⟨?_, ?_⟩, m, kp, b, vd, rd⟩
  · rintro vs H Q E0 ⟨ds, F, M, Q, E, rp, _, _, q, _⟩
    exact (no _ _ _ _ q).elim
  · rintro A outer s H args us vs Q E0 _ _ _ _ _ ⟨ds, F, M, Q, E, rp, _, _, q, _⟩
    exact (no _ _ _ _ q).elim
/-! ### what the top has left -/
def Dfn (K : PySem.W.Frag) (x : Str) (st : Stmt) : Prop := ∃ (f : Addr) (oc : Value) (od : Option Addr) (kV doc pm : Value) (an : Option Addr) (cd ct : Value) (osl : Array (Option Value)),
  PySem.W.nsIn K mainGlobals x = some (some (.ref f)) ∧ K.lookup f = some ⟨oc, od, .func (PySem.W.fnOf x x (defArgs st) (defBody st) (defScope st) .none kV doc pm an cd ct), osl⟩ ∧ PySem.W.codeIn K cd x = true ∧ PySem.W.keepIn K (.ref f) = true
section
variable {K : PySem.W.Frag} {h : Heap} {mg : Str → Option Value} {x : Str} {st : Stmt} {f : Addr} {oc : Value} {od : Option Addr} {kV doc pm : Value} {an : Option Addr} {cd ct : Value} {osl : Array (Option Value)}
theorem dfn_mk (a : PySem.W.nsIn K mainGlobals x = some (some (.ref f))) (l : K.lookup f = some ⟨oc, od, .func (PySem.W.fnOf x x (defArgs st) (defBody st) (defScope st) .none kV doc pm an cd ct), osl⟩) (c : PySem.W.codeIn K cd x = true) (k : PySem.W.keepIn K (.ref f) = true) : Dfn K x st :=
  ⟨f, oc, od, kV, doc, pm, an, cd, ct, osl, a, l, c, k⟩
theorem has_of (X : K.In h) (G : h.Ns mainGlobals mg) {ps : List Str} (D : Dfn K x st)
    (b : ∀ (kV doc pm : Value) (an : Option Addr) (cd ct : Value) (us : List Value), us.length = ps.length → bindArgs (PySem.W.fnOf x x (defArgs st) (defBody st) (defScope st) .none kV doc pm an cd ct) ⟨us, []⟩ = pure (ps.zip us)) : Has K mg x x st ps [] := by
  obtain ⟨f, oc, od, kV, doc, pm, an, cd, ct, osl, a, l, c, k⟩ := D
  exact ⟨f, oc, od, .none, kV, doc, pm, an, cd, ct, osl, [], [], l, c, k, PySem.W.mg_of X G a, .all (b kV doc pm an cd ct), .nil, fun F => .nil⟩
/-- a def with one default, asked with all its arguments -/
def DfnT (K : PySem.W.Frag) (x : Str) (st : Stmt) : Prop := ∃ (f : Addr) (oc : Value) (od : Option Addr) (T : Addr) (o : Obj) (u : Value) (n : Nat) (kV doc pm : Value) (an : Option Addr) (cd ct : Value) (osl : Array (Option Value)),
  PySem.W.nsIn K mainGlobals x = some (some (.ref f)) ∧ K.lookup f = some ⟨oc, od, .func (PySem.W.fnOf x x (defArgs st) (defBody st) (defScope st) (.ref T) kV doc pm an cd ct), osl⟩ ∧ PySem.W.codeIn K cd x = true ∧ PySem.W.keepIn K (.ref f) = true ∧ K.lookup T = some o ∧ o.data = .seq [u].toArray n
theorem dfnT_mk {T : Addr} {c2 : Value} {d2 : Option Addr} {u : Value} {n : Nat} {s2 : Array (Option Value)} (a : PySem.W.nsIn K mainGlobals x = some (some (.ref f))) (l : K.lookup f = some ⟨oc, od, .func (PySem.W.fnOf x x (defArgs st) (defBody st) (defScope st) (.ref T) kV doc pm an cd ct), osl⟩) (c : PySem.W.codeIn K cd x = true) (k : PySem.W.keepIn K (.ref f) = true)
    (lT : K.lookup T = some ⟨c2, d2, .seq #[u] n, s2⟩) : DfnT K x st := ⟨f, oc, od, T, _, u, n, kV, doc, pm, an, cd, ct, osl, a, l, c, k, lT, rfl⟩
theorem hasT_of (X : K.In h) (G : h.Ns mainGlobals mg) {ps : List Str} (D : DfnT K x st)
    (b : ∀ (T : Addr) (kV doc pm : Value) (an : Option Addr) (cd ct : Value) (us its : List Value), us.length = ps.length → its.length = 1 →
      ∃ k, bindArgs (PySem.W.fnOf x x (defArgs st) (defBody st) (defScope st) (.ref T) kV doc pm an cd ct) ⟨us, []⟩ = seqItems? (.ref T) >>= k ∧ k (some its.toArray) = pure (ps.zip us)) : Has K mg x x st ps [] := by
  obtain ⟨f, oc, od, T, o, u, n, kV, doc, pm, an, cd, ct, osl, a, l, c, k, lT, oT⟩ := D
  refine ⟨f, oc, od, .ref T, kV, doc, pm, an, cd, ct, osl, [], [], l, c, k, PySem.W.mg_of X G a, fun s us X2 hl => ?_, .nil, fun F => .nil⟩
  rw [List.append_nil] at hl ⊢
  obtain ⟨kk, e1, e2⟩ := b T kV doc pm an cd ct us [u] hl rfl
  refine BindsTo.of_looks fun M => ?_
  rw [e1]
  exact looks_items X2 lT oT (.of_pure e2)
theorem glob_str (X : K.In h) (G : h.Ns mainGlobals mg) {y : Str} {t : Tok} (a : PySem.W.nsIn K mainGlobals x = some (some (.str y t))) : Glob K mg x (.str y) := ⟨.str y, _, PySem.W.mg_of X G a, ⟨t, rfl⟩, fun F => .str y⟩
theorem glob_int (X : K.In h) (G : h.Ns mainGlobals mg) {i : Int} {t : Tok} (a : PySem.W.nsIn K mainGlobals x = some (some (.int i t))) : Glob K mg x (.int i) := ⟨.int i, _, PySem.W.mg_of X G a, ⟨t, rfl⟩, fun F => .int i⟩
theorem glob_texts (X : K.In h) (G : h.Ns mainGlobals mg) {T : Addr} {od : Option Addr} {its : Array Value} {n : Nat} {sl : Array (Option Value)} {ws : List Str} (a : PySem.W.nsIn K mainGlobals x = some (some (.ref T))) (l : K.lookup T = some ⟨.type "tuple", od, .seq its n, sl⟩)
    (v : Vals (ws.map V.str) its.toList) (z : ws.length ≤ sizeLine) : Glob K mg x (.tup (ws.map D.str)) := by
  refine ⟨.ref T, _, PySem.W.mg_of X G a, rfl, fun F => .tup (.inr ⟨_, its, n, l, rfl, rfl, ?_, v⟩) (of_strs ws)⟩
  have := v.length
  rw [List.length_map] at this
  rw [← Array.length_toList, ← this]
  exact z
end
end DL

set_option maxHeartbeats 4000000
/-! DX1: own exceptions with a value: __init__, raise. -/
namespace DL
open PySem PySem.Spec L2
open PyProof.Rows hiding St

/-- the i-th def of a class -/
def methS (st : Stmt) (i : Nat) : Stmt := match st with
  | .ClassDef _ _ _ body _ _ _ _ _ _ _ => body.getD i (.Pass ⟨0, 0, 0, 0⟩)
  | _ => .Pass ⟨0, 0, 0, 0⟩
/-- TextError.__init__: the exception that is being made gets its dict -/
def spInit (K : PySem.W.Frag) : Sp := fun vs H Q _ => ∃ (a C : Addr) (u : V), vs = [.ref a, u] ∧ OexC K C ∧ PySem.W.findIn K (.ref C) "value" = some none ∧ H a = some (exo a C none) ∧
  ∀ dx, H dx = none → dx ≠ a → Q .non (upd (upd H dx (exd dx [("value", u)])) a (exo a C (some dx)))
def topT (i : Nat) : Stmt := PySem.Challenge.pw_eithermended_k02_types_written_and_read.main.body.getD i (.Pass ⟨0, 0, 0, 0⟩)
abbrev st_init : Stmt := methS (topT 7) 0
theorem sc_init : FnScope ["self", "value"] ["self", "value"] (defScope st_init) := ⟨rfl, rfl, rfl, by decide +kernel, rfl, by decide +kernel, by decide +kernel⟩
section
variable {P : Program} {w : World} {K : PySem.W.Frag} {mg : Str → Option Value} {base : Heap} {fI : Addr} {fd : FuncData}
theorem ok_init (F : Fun K "__init__" "TextError.__init__" st_init fI fd) (mv : mg "ValueError" = none) (vV : PySem.W.findCls K (.type "ValueError") (.type "type") "__init__" = some (.val (.builtin "ValueError.__init__"))) :
    FnOk P w K mg base L2.CX0 1 fI fd ["self", "value"] (spInit K) := by
  refine F.ok sc_init (fun vs H Q E h => ?_) (fun cdv A outer s H vs Q E hr h => ?_)
  · obtain ⟨a, C, u, rfl, _⟩ := h; rfl
  obtain ⟨a, C, u, rfl, T, nv, ea, q⟩ := h
  refine ⟨_, pss_cons (ps_expr (pe_veinit rfl mv vV (pa_cons (pv 0) (pa_cons (pv 1) pa_nil)))) (pss_one (ps_ost (pv 0) (pv 1))), ?_⟩
  refine ⟨.ref a, rfl, u, rfl, a, C, [u], rfl, by simp, T, ea, ?_⟩
  exact ⟨u, rfl, .ref a, rfl, a, C, rfl, T, nv, .inl ⟨ea, fun dx n ne => q dx n ne⟩⟩
end
end DL

set_option maxHeartbeats 4000000
/-! DX2: raise C(e). -/
namespace DL
open PySem PySem.Spec L2
open PyProof.Rows hiding St

/-- an own exception class with one value, its __init__ as TextError's -/
structure ExC (P : Program) (w : World) (K : PySem.W.Frag) (mg : Str → Option Value) (base : Heap) (x : Str) : Prop where
  ex : ∃ (C fI : Addr) (fd : FuncData), mg x = some (.ref C) ∧ PySem.W.nsIn K mainGlobals x = some (some (.ref C)) ∧ OexC K C ∧ PySem.W.findIn K (.ref C) "__init__" = some (some (.ref fI)) ∧
    PySem.W.typeIn K (.ref fI) = some (.type "function") ∧ PySem.W.findIn K (.ref C) "value" = some none ∧ FnOk P w K mg base L2.CX0 1 fI fd ["self", "value"] (spInit K) ∧ Binds K fd ["self", "value"] []
def dRaise (x : Str) (t : DTE) (E : DXK) : DTS := fun _ ρ M => t ρ M fun v M1 => E x v M1
section
variable {X : Cx} {Y : KJ X.K} {p cp pos : Pos} {e : Expr} {t : DTE} {E : DXK} {x : Str}
theorem ds_raise (T : ExC X.prog X.w X.K X.mg X.base x) (hr : Room 2 X.A) (g : XG X Y E) (hc : X.calm = true) (he : DE X Y e t) (hg : Gl X x := by rfl) (hd : (x == ("__debug__" : Str)) = false := by decide)
    (hs : starEach [e] X.env = (false, eval e X.env) :: starEach [] X.env := by rfl) (hpl : (backTo cp (starEach [] X.env)).any (·.1) = false := by rfl) :
    DS X Y (.Raise (some (.Call (.Name x p) [e] [] cp)) none pos) (dRaise x t E) := by
  obtain ⟨C, fI, fd, hm, hn, T, iC, tI, nv, F1, hb⟩ := T.ex
  obtain ⟨W, tk, h⟩ := g.ex
  refine PS.weak (ps_raise hc tk (pmk_oex (dvs := []) T iC tI F1 hr hb .nil pass0 hg hm (da_cons he da_nil hs) hd hs hpl)) ?_
  rintro D0 σ H ⟨F, M, ρ, D, rs, rl, q, k⟩
  refine ⟨F, M, ρ, fun ds M1 => match ds with | [v] => E x v M1 | _ => False, rs, rl, q, ?_⟩
  intro vs ds F1 M1 H1 s1 rp z
  obtain ⟨v, rfl⟩ : ∃ v, ds = [v] := by
    match ds, z with
    | [v], _ => exact ⟨v, rfl⟩
  obtain ⟨u, rfl, ru⟩ := rp1 rp
  refine ⟨by simp, fun a ha => ⟨a, C, u, rfl, T, nv, upd_same, fun dx n ne => ?_⟩⟩
  have hdx : H1 dx = none := by rw [upd_ne ne] at n; exact n
  refine ⟨rfl, dx, [("value", u)], upd_same, by rw [upd_ne ne, upd_same], hdx, ?_⟩
  have e1 : upd (del (upd (upd (upd H1 a (exo a C none)) dx (exd dx [("value", u)])) a (exo a C (some dx))) a) dx (.xd [("value", u)]) = upd H1 dx (.xd [("value", u)]) := by
    funext b
    by_cases hb : b = dx
    · rw [hb, upd_same, upd_same]
    · rw [upd_ne hb, upd_ne hb]
      by_cases hba : b = a
      · rw [hba, del_same, ha]
      · rw [del_ne hba, upd_ne hba, upd_ne hb, upd_ne hba]
  rw [e1]
  have s2 := s1.rel.newF hdx (.xd [("value", u)])
  exact h σ _ M1 _ x v _ _ s2.rel ⟨C, dx, u, hn, rfl, rfl, upd_same, ru.mono s2.same⟩ z
end
end DL

set_option maxHeartbeats 4000000
/-! DX3: a caught exception that stays known behind its suite. -/
namespace DL
open PySem PySem.Spec L2
open PyProof.Rows hiding St

/-- the heap where the caught exception at a is known -/
def clm (cls : Value) (d : Option Addr) (a : Addr) (H : Hp) : Hp :=
  match cls, d with
  | .ref C, some dx => upd H a (ExK C dx a)
  | _, _ => H
theorem clm_of {C dx a : Addr} {H : Hp} : clm (.ref C) (some dx) a H = upd H a (ExK C dx a) := rfl
theorem inv_claim {X : Cx} {pins : List (Addr × Obj)} {σ : L2.St} {H : Hp} {s : Shared} {a : Addr} {oe : Obj} {vs : Array Value} {cls : Value} {d : Option Addr} (I : Inv X pins σ H s) (e : s.heap.get? a = some oe)
    (z : Zc cls d oe) (hd : oe.data = .fields vs) (n0 : X.s_0.heap.get? a = none) (nL : a ≠ X.env.locals) (np : ∀ p ∈ X.pn ++ pins, p.1 ≠ a) (na : H a = none) : Inv X pins σ (clm cls d a H) s := by
  unfold clm
  split
  case h_2 => exact I
  case h_1 C dx =>
  have keepH : ∀ {b : Addr} {o : HO}, H b = some o → upd H a (ExK C dx a) b = some o := fun {b o} q => by
    have hb : b ≠ a := fun w => by rw [w, na] at q; cases q
    rw [upd_ne hb]; exact q
  have un : Un X.fs X.ex X.H_0 (upd H a (ExK C dx a)) X.s_0.heap s.heap := by
    refine ⟨I.base.keep, I.base.slot, fun b o q n hx => ?_, I.base.there, fun b xs q => keepH (I.base.tups b xs q), fun b o u q => keepH (I.base.frzs b o u q), fun b ps q => ?_⟩
    · have hb : b ≠ a := fun w => by rw [w, n0] at q; cases q
      rw [upd_ne hb]; exact I.base.free b o q n hx
    · obtain ⟨more, r⟩ := I.base.tbls b ps q
      exact ⟨more, keepH r⟩
  have hok : HOk X.prog X.w (upd H a (ExK C dx a)) s.heap := fun b o q => by
    by_cases hb : b = a
    · subst hb
      rw [upd_same] at q; cases q
      exact ⟨⟨oe, vs, e, z, hd⟩, ⟨oe, e⟩, fun h1 h2 ⟨o1, v1, q1, q2, q3⟩ k => ⟨o1, v1, k _ q1, q2, q3⟩⟩
    · rw [upd_ne hb] at q
      exact (I.hok b o q).stay (fun _ _ _ q => q) (fun _ q => keepH q) fun _ _ q => keepH q
  refine ⟨I.ok, I.os, I.bare, un, I.loc, I.cell, ?_, fun x c q => ?_, fun p hp => ?_, hok, I.len⟩
  · rw [upd_ne (Ne.symm nL)]; exact I.free
  · have hc : c ≠ a := fun w => by
      obtain ⟨v, o, ho, hv⟩ := I.cell x c q
      rw [w, e] at ho; cases ho
      rw [hd] at hv; cases hv
    rw [upd_ne hc]; exact I.freeC x c q
  · obtain ⟨p1, p2, p3, p4, p5⟩ := I.pin p hp
    exact ⟨p1, by rw [upd_ne (np p hp)]; exact p2, p3, p4, p5⟩

section
variable {X : Cx} {x n : Str} {c : Value} {i : Nat} {body suite : List Stmt} {b₀ : Stmt} {np pos pos' : Pos} {tb : WX → L2.TS} {ts : Addr → Value → Option Addr → L2.TS} {Wo : WX}
/-- what is wished of an exception where the clause keeps it -/
def wKeep (K : PySem.W.Frag) (c : Value) (i : Nat) (ts : Addr → Value → Option Addr → L2.TS) (Wo : WX) (D : L2.Ends) : WX := fun cls d σ H =>
  ∃ b, PySem.W.exmOne K cls c = some b ∧ (b = false → Wo cls d σ H) ∧
    (b = true → ∀ a, H a = none → ts a cls d { nx := fun τ G => D.nx (τ.set i none) (clm cls d a G), rt := fun v G => D.rt v (clm cls d a G), bk := fun τ G => D.bk (τ.set i none) (clm cls d a G), ct := fun τ G => D.ct (τ.set i none) (clm cls d a G) } (σ.set i (some (.ref a))) H)
theorem ps_keep (stk : X.stack = X.env :: X.outer) (noex : X.ex = []) (fr : X.env.frame = some X.env.locals) (nd : X.N.Nodup) (ix : X.N[i]? = some n) (kd : X.env.kindOf n = some .local) (nm : Names X x c) (tk : Takes X Wo)
    (pb : ∀ (W : WX) (pn : List (Addr × Obj)) (xe : Value → Shared → Prop), Takes (X.tr pn xe) W → PassesOwn (model X.prog X.w) X.A X.env xe → PSs (X.tr pn xe) body (tb W))
    (ps : ∀ (a : Addr) (oe : Obj) (cls : Value) (d : Option Addr) (pn : List (Addr × Obj)), Zc cls d oe → (∃ vs, oe.data = .fields vs) → PSs (X.suite a ((a, oe) :: pn)) (b₀ :: suite) (ts a cls d)) :
    PS X (.Try body [.ExceptHandler (some (.Name x np)) (some n) (b₀ :: suite) pos'] [] [] pos) (fun D σ H => tb (wKeep X.K c i ts Wo D) D σ H) := by
  constructor
  intro pins s σ H D I0 want
  have okX := I0.ok
  have frX : X.A.frames = some (X.env :: X.outer) := stk ▸ okX.frames
  apply wpAny_Try_except
  let catch_ : Value → Shared → Prop := fun e s₁ => wpAny (model X.prog X.w) X.A (noteFrame e X.env) (fun _ s₂ => wpAny (model X.prog X.w) X.A (setFlight e none)
    (fun _ s₃ => wpAny (model X.prog X.w) X.A (handleBy e X.env [.ExceptHandler (some (.Name x np)) (some n) (b₀ :: suite) pos']) (SP X pins D) X.xe s₃) X.xe s₂) X.xe s₁
  have tkB : Takes (X.tr (X.pn ++ pins) catch_) (wKeep X.K c i ts Wo D) := by
    rintro _ s' ⟨a, B, sI, pins', τ, G, cls, d, rfl, JT, nb, up, sky, na, os, ag, b, eb, wno, wyes⟩
    have J : Inv X pins τ G sI := JT.ofTry okX
    have skyX : Sky B (X.env :: X.outer) a (Zc cls d) X.env.locals s'.heap := stk ▸ sky
    show wpAny (model X.prog X.w) X.A (noteFrame (.ref a) X.env) _ _ _
    apply Sky.land Zc.steady frX fr skyX
    intro h3 fl3 up3
    have Jl := J.landed (s' := { s' with heap := h3 }) nb fl3.1 (up.trans up3) os ag
    obtain ⟨oe, vs, ae, az, ad⟩ := fl3.there
    have offStk : a ∉ frs (X.env :: X.outer) := fun hm => by
      obtain ⟨_, o1, e1, q1⟩ := fl3.2.2.1.mem hm
      exact q1 _ (by rw [ae] at e1; cases e1; exact ad)
    have offL : a ≠ X.env.locals := fun w => offStk (List.mem_filterMap.mpr ⟨X.env, List.mem_cons_self, w ▸ fr⟩)
    have offF : a ∉ X.fs := fun hm => let ⟨en, m1, m2⟩ := List.mem_filterMap.mp hm; offStk (List.mem_filterMap.mpr ⟨en, List.mem_cons_of_mem _ m1, m2⟩)
    -- the object is none of the def's entry, none that is pinned
    have newI : sI.heap.get? a = none := by
      cases q : sI.heap.get? a with
      | none => rfl
      | some o =>
        have := nb a o q (stk ▸ offStk)
        rw [fl3.2.1] at this; cases this
    have new0 : X.s_0.heap.get? a = none := by
      cases q : X.s_0.heap.get? a with
      | none => rfl
      | some o =>
        obtain ⟨o', q'⟩ := J.base.there a o q (by rw [noex]; simp)
        rw [newI] at q'; cases q'
    have offP : ∀ p ∈ X.pn ++ pins, p.1 ≠ a := fun p hp w => by
      have := (J.pin p hp).1
      rw [w, newI] at this; cases this
    have Ss := Jl.suite ae ad na offL offF
    apply wpAny_handleBy_cons _ (by intro q; cases q)
    apply codeAny_handlers_test
    have looks : PySem.W.Looks (model X.prog X.w) h3 (typeOf (.ref a)) cls := fun A Q E s k q => wpAny_typeOf_ref (k _ _ ae) (az.1.symm ▸ q)
    have names : ∀ {Q E : Value → Shared → Prop}, Q c { s' with heap := h3 } → wpAny (model X.prog X.w) (X.A.mark (some (.ref a))) (eval (.Name x np) X.env) Q E { s' with heap := h3 } := by
      intro Q E q
      rcases nm with ⟨g1, g2, g3⟩
      rcases g3 with g3 | ⟨g3, g4, g5⟩
      · exact ld_glob (X := X.suite a ((a, oe) :: (X.pn ++ pins))) Ss g1 g3 q g2
      · exact ld_blt (X := X.suite a ((a, oe) :: (X.pn ++ pins))) Ss g1 g3 g4 q g5 g2
    apply names
    apply (PySem.W.exm_one (M := model X.prog X.w) Jl.kIn looks eb).here
    cases b
    · show wpAny _ X.A (handleBy (.ref a) X.env []) _ _ _
      apply wpAny_handleBy_nil
      have fl := fl3
      obtain ⟨_, _, _, oe', vs', T, oT, ts', he, hz, hd, h1, hr⟩ := fl3
      unfold PySem.passOn
      apply wpAny_bind
      apply wpAny_field he hd h1
      rw [if_neg (by simp)]
      have on : wpAny (model X.prog X.w) X.A (setFlight (.ref a) X.env.frame) (fun _ s4 => wpAny (model X.prog X.w) X.A (throw (.ref a) : Sem Flow) (SP X pins D) X.xe s4) X.xe { s' with heap := h3 } := by
        rw [fr]
        apply HandSPX.setFlight_upZ fl
        intro h4 held up4
        exact wpAny_throw (tk _ _ ⟨a, B, sI, pins, τ, G, cls, d, rfl, J, nb, (up.trans up3).trans up4, .inr (.inr (stk.symm ▸ held)), na, os, ag, wno rfl⟩)
      first
        | exact wpAny_bind (wpAny_pure (wpAny_bind on))
        | exact wpAny_bind on
    · apply codeAny_handlers_suite_as
      apply HandSPX.lands_againZ fl3
      intro h4 fl4 up4
      have J4 := J.landed (s' := { s' with heap := h4 }) nb fl4.1 ((up.trans up3).trans up4) os ag
      obtain ⟨o4, v4, ae4, az4, ad4⟩ := fl4.there
      have S4 := J4.suite ae4 ad4 na offL offF
      apply store_ok (X := X.suite a ((a, o4) :: (X.pn ++ pins))) (v := .ref a) S4 nd ix (.inl kd) rfl _ (.inr kd)
      intro s5 S5
      refine wpAny_mono ((ps a o4 cls d (X.pn ++ pins) az4 ⟨_, ad4⟩).run [] s5 _ G _ S5 (wyes rfl a na)) ?_ (fun _ _ z => False.elim z)
      intro f s6 sp
      have gone : ∀ {τ' : L2.St} {G' : Hp} {Q : Shared → Prop}, Inv (X.suite a ((a, o4) :: (X.pn ++ pins))) [] τ' G' s6 → (∀ s7, Inv X pins (τ'.set i none) (clm cls d a G') s7 → Q s7) →
          wpAny (model X.prog X.w) X.A (do bindName X.env n .none; unbindBehindTheSuite X.env n pos') (fun _ s7 => Q s7) X.xe s6 := by
        intro τ' G' Q S6 k
        have pa := S6.pin (a, o4) (List.mem_append_left _ List.mem_cons_self)
        exact gone_ok (inv_claim (S6.unsuite okX) pa.1 az4 ad4 new0 offL offP pa.2.1) nd ix kd k
      cases f with
      | ret u => obtain ⟨v6, τ6, G6, S6, r6, q6⟩ := sp; exact gone S6 fun s7 J7 => ⟨_, _, _, J7, r6, q6⟩
      | next => obtain ⟨τ6, G6, S6, q6⟩ := sp; exact gone S6 fun s7 J7 => ⟨_, _, J7, q6⟩
      | brk => obtain ⟨τ6, G6, S6, q6⟩ := sp; exact gone S6 fun s7 J7 => ⟨_, _, J7, q6⟩
      | cont => obtain ⟨τ6, G6, S6, q6⟩ := sp; exact gone S6 fun s7 J7 => ⟨_, _, J7, q6⟩
  refine wpAny_mono ((pb _ (X.pn ++ pins) catch_ tkB PassesOwn.looking).run [] s σ H D (I0.toTry _) want) ?_ (fun e s1 he => he)
  intro f s1 sp
  cases f with
  | next => obtain ⟨τ, G, J, q⟩ := sp; exact wpAny_execs_nil ⟨τ, G, J.ofTry okX, q⟩
  | ret u => obtain ⟨v, τ, G, J, r, q⟩ := sp; exact ⟨v, τ, G, J.ofTry okX, r, q⟩
  | brk => obtain ⟨τ, G, J, q⟩ := sp; exact ⟨τ, G, J.ofTry okX, q⟩
  | cont => obtain ⟨τ, G, J, q⟩ := sp; exact ⟨τ, G, J.ofTry okX, q⟩
end
end DL

set_option maxHeartbeats 4000000
/-! DX4a: a lambda called, the wish of its exception at the slots of the call. -/
namespace DL
open PySem PySem.Spec L2 LamX
open PyProof.Rows hiding St
section
variable {X : Cx} {pins : List (Addr × Obj)} {σ : L2.St} {H : Hp} {s : Shared}
/-- LamX.pe_act, the slots of the caller told -/
theorem pe_actS {CXg : CXT} {Eg : XK} {Ng : List Str} {qg : Str} {sg : Scope} {g f c' : Addr} {cdg pm ctv : Value} {params : Arguments} {body : Expr} {scope : Scope} {k i : Nat} {a : Str} {pn : List (Addr × Obj)} {xe : Value → Shared → Prop} {W : WX} {E : XK} {tb : L2.TE} {p1 p2 : Pos} {σ₀ : L2.St}
    (I : Inv X pins σ H s) (L : LamS X.env.scope scope) (hf : s.heap.get? f = some (PySem.W.kla_obj "<lambda>" (X.env.qual ++ "<lambda>") params body scope (cloFrom X.env.cells scope.names []) pm c' ctv)) (hfn : H f = none) (hfr : f ∉ frs X.stack)
    (bind : bindArgs (PySem.W.kla_fn "<lambda>" (X.env.qual ++ "<lambda>") params body scope (cloFrom X.env.cells scope.names []) pm (.ref c') ctv) ⟨[], []⟩ = pure [])
    (tk : Takes ((cxOf CXg X.prog X.w X.K X.mg X.base Ng qg sg g cdg X.A X.stack s H Eg).tr pn xe) W) (wE : ∀ cls d G, E cls d G → W cls d σ₀ G) (room : Room (k + 1) (X.A.deeper (envOfC qg sg s.heap.objs.size g cdg)))
    (pb : ∀ (A : Around) (outer : List Env) (s : Shared) (H : Hp), A.guards = X.A.guards → Room k (A.deeper (lamEnv X scope s.heap.objs.size f c')) → PE (lamCx X A outer s H E scope f c') body tb)
    (hN : Ng[i]? = some a) (hv : Vis sg a) (hd : (a == ("__debug__" : Str)) = false := by decide) (hcd : (a == ("__classdict__" : Str)) = false := by decide) :
    PE ((cxOf CXg X.prog X.w X.K X.mg X.base Ng qg sg g cdg X.A X.stack s H Eg).tr pn xe) (.Call (.Name a p1) [] [] p2)
      (fun σZ HZ Q => σZ = σ₀ ∧ σZ[i]? = some (some (.ref f)) ∧ HZ c' = some (CodeO c' (X.env.qual ++ "<lambda>")) ∧ tb σ HZ Q) := by
  constructor
  rintro pinsZ sZ σZ HZ Q IZ ⟨e0, slot, code, want⟩
  subst e0
  apply wpAny_Call_Name_kw
  refine thn ((pe_var (pos := p1) (i := i) hN hv hd hcd).run pinsZ sZ σZ HZ (fun v G => v = .ref f ∧ G = HZ) IZ ⟨.ref f, slot, rfl, rfl⟩) ?_
  rintro u s1 ⟨w0, G0, I1, rel, ev, eG⟩
  subst ev
  rw [eG] at I1
  obtain rfl : u = Value.ref f := rel
  have lam := I1.base.keep f _ hf hfn hfr (by intro z; cases z)
  apply PySem.W.callWith_F0 ⟨_, _, _, _, lam⟩
  obtain ⟨⟨oc, vs, t, c1, c2, c3⟩, _, _⟩ := I1.hok c' _ code
  have run : codeAny (model X.prog X.w) (X.A.deeper (envOfC qg sg s.heap.objs.size g cdg)) (.call (.ref f) ⟨[], []⟩) (CR (L2.CX X.prog X.w) (envOfC qg sg s.heap.objs.size g cdg :: X.stack) X.prog X.w HZ s1 Q E) s1 := by
    apply PySem.W.kla_callFunE room.depth lam rfl L.co L.gen rfl ⟨c', oc, vs, t, rfl, c1, c2, c3⟩
    rw [bind]
    apply wpAny_pure
    refine wpAny_newFunctionEnv (fun y hy => (L.own y hy).2) (fun y hy => absurd hy (by simp)) (fun h₁ ns sb => ?_) L.kind
    refine ⟨I1.nolimit.fresh _ sb, ?_⟩
    show codeAny _ _ (.expr body (lamEnv X scope s1.heap.objs.size f c')) _ _
    have J : Inv (lamCx X (X.A.deeper (envOfC qg sg s.heap.objs.size g cdg)) (envOfC qg sg s.heap.objs.size g cdg :: X.stack) s1 HZ E scope f c') [] σ HZ { s1 with heap := h₁, toks := s1.toks + ([] : List (Str × Value)).length } :=
      lam_start2 I L I1.env0 room.hd I1.base ns fun b o e => sb.extBut b o (Nat.ne_of_lt (Heap.lt_size e)) (Heap.get?_push_of_some _ e)
    refine PySem.W.kla_codeExpr (wpAny_mono ((pb (X.A.deeper (envOfC qg sg s.heap.objs.size g cdg)) _ s1 HZ rfl (room.deeper _)).run [] _ _ HZ Q J want) ?_ fun e s' q => q)
    rintro v s' ⟨w', G, J', rv, q⟩
    exact ⟨w', G, J'.os, J'.bare, J'.base, J'.hok, rv, q⟩
  apply wpAny_call
  refine codeAny_mono run ?_
  intro r s' res
  cases r with
  | error e => exact tk e s' (XE.of_call I1 (fun cls d G q => wE cls d G q) res)
  | ok fl => cases fl with
    | ret u => exact I1.after res
    | next => exact res.elim
    | brk => exact res.elim
    | cont => exact res.elim
end
end DL

set_option maxHeartbeats 4000000
/-! DX4b: a def that calls what it got, at told slots; its call with a lambda. -/
namespace DL
open PySem PySem.Spec L2 LamX
open PyProof.Rows hiding St

/-- the context of the def x at g, entered from X at s -/
abbrev Zg (X : Cx) (Ng : List Str) (x : Str) (sg : Scope) (g : Addr) (cdg : Value) (s : Shared) (H : Hp) : Cx := cxOf C8.CX0 X.prog X.w X.K X.mg X.base Ng x sg g cdg X.A X.stack s H C8.E0
abbrev TTv := (XK → Hp → VK → Prop) → Hp → VK → Prop
/-- as LamX.GivesTo, the slots told at each call of what it got -/
def GivesS (X : Cx) (Ng : List Str) (x : Str) (sg : Scope) (g : Addr) (cdg : Value) (bg : List Stmt) (a q : Str) (TT : TTv) : Prop :=
  ∀ (f c' : Addr) (s : Shared) (H : Hp) (Q : VK) (tl : XK → Hp → VK → Prop),
    (∀ (σ₀ : L2.St) (W : WX) (pn : List (Addr × Obj)) (xe : Value → Shared → Prop) (E : XK) (p1 p2 : Pos), Takes ((Zg X Ng x sg g cdg s H).tr pn xe) W → (∀ cls d G, E cls d G → W cls d σ₀ G) →
      PE ((Zg X Ng x sg g cdg s H).tr pn xe) (.Call (.Name a p1) [] [] p2) fun σ G R => σ = σ₀ ∧ σ[0]? = some (some (.ref f)) ∧ G c' = some (CodeO c' q) ∧ tl E G R) →
    H c' = some (CodeO c' q) → TT tl H Q → ∃ t, PSs (Zg X Ng x sg g cdg s H).nox bg t ∧ t { nx := fun _ G => Q .non G, rt := Q } (L2.start Ng [.ref f]) H
section
variable {X : Cx}
/-- x(lambda: body), x such a def -/
theorem pe_lamS {T : List (Addr × Str)} {TT : TTv} {x a : Str} {g c P : Addr} {k : Nat} {pg : Arguments} {bg : List Stmt} {sg : Scope} {dV kV doc pm cdv ct oc : Value} {an od : Option Addr} {osl : Array (Option Value)} {Ng : List Str}
    {params : Arguments} {body : Expr} {scope : Scope} {t : XK → L2.TE} {p lpos pos : Pos}
    (gl : Gl X x) (m : X.mg x = some (.ref g)) (kp : PySem.W.keepIn X.K (.ref g) = true) (lk : X.K.lookup g = some ⟨oc, od, .func (PySem.W.fnOf x x pg bg sg dV kV doc pm an cdv ct), osl⟩) (hcd : PySem.W.codeIn X.K cdv x = true)
    (bi : L2.Binds X.K (PySem.W.fnOf x x pg bg sg dV kV doc pm an cdv ct) [a] []) (S : FnScope Ng [a] sg) (N0 : Ng[0]? = some a) (vis : Vis sg a) (give : GivesS X Ng x sg g cdv bg a (X.env.qual ++ "<lambda>") TT)
    (tb : TabB X.base X.mg c P) (cod : X.env.code = .ref c) (inT : (P, X.env.qual ++ "<lambda>") ∈ T) (onlyT : ∀ p ∈ T, p.1 = P → p.2 = X.env.qual ++ "<lambda>") (room : Room (k + 2) X.A) (L : LamS X.env.scope scope) (nodef : defaultsOf params X.env = ([], []))
    (noarg : ∀ (q : Str) (cl : List (Str × Addr)) (pm cv ctv : Value), bindArgs (PySem.W.kla_fn "<lambda>" q params body scope cl pm cv ctv) ⟨[], []⟩ = pure [])
    (inner : ∀ (A : Around) (outer : List Env) (s : Shared) (H : Hp) (E : XK) (f c' : Addr), A.guards = X.A.guards → Room k (A.deeper (lamEnv X scope s.heap.objs.size f c')) → PE (lamCx X A outer s H E scope f c') body (t E))
    (n1 : (x == ("__debug__" : Str)) = false := by decide) (n2 : (a == ("__debug__" : Str)) = false := by decide) (n3 : (a == ("__classdict__" : Str)) = false := by decide) :
    PE X (.Call (.Name x p) [.Lambda params body scope lpos] [] pos) (tLam T TT t) := by
  constructor
  rintro pins s σ H Q I ⟨tabs, nxt⟩
  apply wpAny_Call_Name_kw
  refine ld_glob I gl m ?_ n1
  refine PySem.W.callWith_K (h₀ := X.base) I.ok.mod.kin kp ?_ (by rfl) (by rfl)
  show wpAny _ _ (spliced ((false, eval (.Lambda params body scope lpos) X.env) :: backTo pos (starEach [] X.env))) _ _ s
  apply Calls.spliced_cons
  apply lam_make2 I tb cod inT onlyT tabs nodef (L.has I.ok)
  intro f c' pm' ctv H1 s' I1 eN T1 hf hfn hfr hco
  refine Calls.spliced_nil ⟨I1.kIn, ?_⟩
  have run : codeAny (model X.prog X.w) X.A (.call (.ref g) ⟨[.ref f], []⟩) (CR C8.CX0 X.stack X.prog X.w H1 s' Q C8.E0) s' := by
    refine run_ofS (N := Ng) (ps := [a]) (us := [.ref f]) (vs := [.ref f]) lk hcd S room I1.env0 (bi s' [.ref f] I1.kIn rfl) (.cons rfl .nil) rfl ?_
    intro room'
    obtain ⟨u, hu, hq⟩ := give f c' s' H1 Q (fun E G R => t E σ G R) (fun σ₀ W pn xe E p1 p2 tk wE =>
      pe_actS (i := 0) (CXg := C8.CX0) (Eg := C8.E0) I1 L hf hfn hfr (noarg _ _ _ _ _) tk wE room' (fun A outer s H gA r2 => inner A outer s H E f c' gA r2) N0 vis n2 n3) hco (nxt H1 eN T1)
    exact ⟨u, hu.nox, hq⟩
  apply wpAny_call
  refine codeAny_mono run ?_
  intro r s2 q
  match r, q with
  | .error _, q => exact (show False from q).elim
  | .ok (.ret u), q => exact I1.after q
  | .ok .next, q => exact q.elim
  | .ok .brk, q => exact q.elim
  | .ok .cont, q => exact q.elim
end
end DL

set_option maxHeartbeats 4000000
/-! DX4c: a def that calls what it got and tells what was heard. -/
namespace DL
open PySem PySem.Spec L2 LamX
open PyProof.Rows hiding St

/-- caught, back = None, None; try: back = a() except C as error: caught = error; return caught, back -/
def THeard (K : PySem.W.Frag) (CS : Addr) : TTv := fun tl H Q =>
  ∀ p0, H p0 = none → tl (fun cls d G => PySem.W.exmOne K cls (.ref CS) = some true ∧ ∀ a, G a = none → ∀ p, clm cls d a G p = none → Q (.ref p) (upd (clm cls d a G) p (.tup [.ref a, .non]))) (upd H p0 (.tup [.non, .non]))
    (fun v G => ∀ p, G p = none → Q (.ref p) (upd G p (.tup [.non, v])))
section
variable {X : Cx}
theorem PE.up {e : Expr} {t : L2.TE} (h : PE X e t) : PE X e fun σ H Q => ∃ R, t σ H R ∧ ∀ v G, R v G → Q v G := by
  constructor
  rintro pins s σ H Q I ⟨R, z, k⟩
  refine wpAny_mono (h.run pins s σ H R I z) ?_ fun _ _ x => x
  rintro u s1 ⟨v, G, J, r, q⟩
  exact ⟨v, G, J, r, k v G q⟩
theorem heard_gives {x a cg bk er e q : Str} {sg : Scope} {g CS : Addr} {cdg : Value} {j1 j2 : Nat} {k1 k2 k3 : Nat} {p1 p2 p3 p4 p5 p6 p7 p8 p9 q1 q2 q3 q4 q5 q6 q7 q8 q9 r1 r2 r3 : Pos}
    (hge : sg.names.lookup e = some .globalImplicit) (hme : X.mg e = some (.ref CS)) (hde : (e == ("__debug__" : Str)) = false) (hc1 : sg.names.lookup cg = some .local) (hc2 : sg.names.lookup bk = some .local) (hc3 : sg.names.lookup er = some .local)
    (nd : [a, cg, bk, er].Nodup)
    (hw : ∀ env : Env, env.scope = sg → swappedStores [.Tuple [.Name cg p1, .Name bk p2] k1 p3] (.Tuple [.Constant .none j1 p4, .Constant .none j2 p5] k2 p6) env = pure none)
    (hs : ∀ env : Env, env.scope = sg → swapsWithSole [.Tuple [.Name cg p1, .Name bk p2] k1 p3] (.Tuple [.Constant .none j1 p4, .Constant .none j2 p5] k2 p6) p7.line env = pure false)
    (hsw : ∀ env : Env, env.scope = sg → swapsWith (.Call (.Name a p9) [] [] q1) (some (.Name bk p8)) q2.line env = pure false) (hsw2 : ∀ env : Env, env.scope = sg → swapsWith (.Name er q5) (some (.Name cg q4)) q6.line env = pure false)
    (d1 : (cg == ("__debug__" : Str)) = false) (d2 : (bk == ("__debug__" : Str)) = false) (d3 : (er == ("__debug__" : Str)) = false) (e1 : (cg == ("__classdict__" : Str)) = false) (e2 : (bk == ("__classdict__" : Str)) = false) (e3 : (er == ("__classdict__" : Str)) = false) : GivesS X [a, cg, bk, er] x sg g cdg
      [.Assign [.Tuple [.Name cg p1, .Name bk p2] k1 p3] (.Tuple [.Constant .none j1 p4, .Constant .none j2 p5] k2 p6) p7,
       .Try [.Assign [.Name bk p8] (.Call (.Name a p9) [] [] q1) q2] [.ExceptHandler (some (.Name e q3)) (some er) [.Assign [.Name cg q4] (.Name er q5) q6] q7] [] [] q8,
       .Return (some (.Tuple [.Name cg q9, .Name bk r1] k3 r2)) r3] a q (THeard X.K CS) := by
  intro f c' s H Q tl act hc h
  let Z := (Zg X [a, cg, bk, er] x sg g cdg s H).nox
  have es : Z.env.scope = sg := rfl
  have hgl : Gl Z e := hge
  refine ⟨_, pss_cons (ps_asg (X := Z) (pe_tup (pa_cons pe_non (pa_cons pe_non pa_nil))) (pg_tup rfl (pgs_cons (pg_name (i := 1) nd rfl (.inl hc1) (.inr hc1)) (pgs_cons (pg_name (i := 2) nd rfl (.inl hc2) (.inr hc2)) pgs_nil))) (hs _ es) (hw _ es))
    (pss_cons (ps_keep (X := Z) (i := 3) (c := .ref CS) (Wo := fun _ _ _ _ => False) (ts := fun _ _ _ => tAsg (tVar 3) (gName 1))
      (tb := fun W D σ H => ∃ Ech : XK, (∀ cls d G, Ech cls d G → W cls d σ G) ∧ σ[0]? = some (some (.ref f)) ∧ H c' = some (CodeO c' q) ∧ ∃ R, tl Ech H R ∧ ∀ v G, R v G → D.nx (σ.set 2 (some v)) G)
      rfl rfl rfl nd rfl hc3 ⟨hgl, hde, .inl hme⟩ L2.takes0 (fun W pn xe tk _ => ?_) (fun a oe cls d pn _ _ => pss_one (ps_set nd rfl (.inl hc1) (pe_var rfl (.inl hc3) d3 e3) (hsw2 _ es) (.inr hc1))))
    (pss_one (ps_ret (pe_tup (pa_cons (pe_var (i := 1) rfl (.inl hc1) d1 e1) (pa_cons (pe_var (i := 2) rfl (.inl hc2) d2 e2) pa_nil)))))), ?_⟩
  · constructor
    rintro pins s' σ G D I ⟨Ech, hW, h1, h2, R, h3, h4⟩
    have one := act σ W pn xe Ech p9 q1 tk hW
    have two := pss_one (ps_set (i := 2) (pos := q2) (pos' := p8) nd rfl (.inl hc2) (PE.up one) (hsw _ es) (.inr hc2))
    exact two.run pins s' σ G D I ⟨R, ⟨rfl, h1, h2, h3⟩, h4⟩
  · refine ⟨by show 2 ≤ sizeLine; rw [sizeLine_eq]; omega, fun p0 hp0 => ?_⟩
    have hc0 : upd H p0 (.tup [.non, .non]) c' = some (CodeO c' q) := by rw [upd_ne (ne_of_none hc hp0)]; exact hc
    refine ⟨p0, [.non, .non], rfl, .inl (.inl upd_same), rfl, ?_⟩
    refine ⟨.non, [.non], rfl, .non, [], rfl, rfl, ?_⟩
    refine ⟨fun cls d G => PySem.W.exmOne X.K cls (.ref CS) = some true ∧ ∀ a, G a = none → ∀ p, clm cls d a G p = none → Q (.ref p) (upd (clm cls d a G) p (.tup [.ref a, .non])), ?_, rfl, hc0, ?_⟩
    · rintro cls d G ⟨b1, b2⟩
      refine ⟨true, b1, fun z => (Bool.noConfusion z), fun _ b hb => ?_⟩
      refine ⟨.ref b, rfl, ?_⟩
      refine ⟨.ref b, rfl, .non, rfl, ?_⟩
      refine ⟨by show 2 ≤ sizeLine; rw [sizeLine_eq]; omega, fun p hp => b2 b hb p hp⟩
    · refine ⟨_, h p0 hp0, fun v G hv => ?_⟩
      refine ⟨.non, rfl, ?_⟩
      refine ⟨v, rfl, ?_⟩
      refine ⟨by show 2 ≤ sizeLine; rw [sizeLine_eq]; omega, fun p hp => hv p hp⟩
end
end DL

set_option maxHeartbeats 4000000
/-! DX4d: heard(lambda: e) over data. -/
namespace DL
open PySem PySem.Spec L2 LamX
open PyProof.Rows hiding St

/-- a state behind a given one -/
def fromY {K : PySem.W.Frag} (Y : KJ K) (F : Hp) (M : Mp) (H : Hp) : KJ K where
  T := Y.T
  J := fun F' M' H' => StpR K Y.T F M H F' M' H' ∧ Y.J F' M' H'
  cl := fun ⟨a, j⟩ s => ⟨a.trans s, Y.cl j s⟩
/-- the tables may grow -/
theorem RelR.ext {K : PySem.W.Frag} {T : TT8} {F : Hp} {M : Mp} {H H1 : Hp} (R : RelR K F M H) (e : ExtN H H1) (t : Tabs T H → Tabs T H1) : StpR K T F M H F M H1 := by
  refine ⟨Same.refl F, ⟨fun a o q => e a o (R.sub a o q) fun ps z => R.nt a ps (by rw [q, z]), fun a m q => ?_, R.nt⟩, fun a o q f m n => ⟨e a o q n, f, m⟩, t⟩
  obtain ⟨f, o, e1, r⟩ := R.mt a m q
  refine ⟨f, o, e a o e1 ?_, r⟩
  rintro ps rfl
  cases m <;> exact r.elim
theorem exK_tbl {C dx a : Addr} (ps : Array Value) : ExK C dx a ≠ .tbl ps := fun z => by
  unfold ExK at z
  cases z
def dHeard (ok : Str → Prop) (td : DXK → DTE) : DTE := fun ρ M Q => td (fun x v M1 => ok x ∧ Q (.tup [.exc x v, .non]) M1) ρ M fun v M1 => Q (.tup [.non, v]) M1
section
variable {X : Cx} {Y : KJ X.K}
theorem de_heard {x a : Str} {st : Stmt} {Ng : List Str} {CS c P : Addr} {k : Nat} {params : Arguments} {body : Expr} {scope : Scope} {td : DXK → DTE} {ok : Str → Prop} {p lpos pos : Pos}
    (D : Has X.K X.mg x x st [a] []) (S : FnScope Ng [a] (defScope st)) (give : ∀ (g : Addr) (cdv : Value) (q : Str), GivesS X Ng x (defScope st) g cdv (defBody st) a q (THeard X.K CS))
    (tb : TabB X.base X.mg c P) (cod : X.env.code = .ref c) (inT : (P, X.env.qual ++ "<lambda>") ∈ Y.T) (onlyT : ∀ p ∈ Y.T, p.1 = P → p.2 = X.env.qual ++ "<lambda>")
    (sub : ∀ n C, ok n → PySem.W.nsIn X.K mainGlobals n = some (some (.ref C)) → PySem.W.exmOne X.K (.ref C) (.ref CS) = some true) (hr : Room (k + 2) X.A) (gu : X.A.guards = some []) (xt : XT Y) (L : LamS X.env.scope scope)
    (inner : ∀ (A : Around) (outer : List Env) (s : Shared) (H : Hp) (E : XK) (f c' : Addr) (Y' : KJ X.K) (E1 : DXK), Y'.T = Y.T → Room k (A.deeper (lamEnv X scope s.heap.objs.size f c')) → (A.deeper (lamEnv X scope s.heap.objs.size f c')).guards = some [] →
      XG (lamCx X A outer s H E scope f c') Y' E1 → DE (lamCx X A outer s H E scope f c') Y' body (td E1))
    (nodef : defaultsOf params X.env = ([], []) := by rfl) (noarg : ∀ (q : Str) (cl : List (Str × Addr)) (pm cv ctv : Value), bindArgs (PySem.W.kla_fn "<lambda>" q params body scope cl pm cv ctv) ⟨[], []⟩ = pure [] := by intros; rfl)
    (gl : Gl X x := by rfl) (N0 : Ng[0]? = some a := by rfl) (vis : Vis (defScope st) a := by first | exact Or.inl rfl | exact Or.inr (Or.inl rfl))
    (n1 : (x == ("__debug__" : Str)) = false := by decide) (n2 : (a == ("__debug__" : Str)) = false := by decide) (n3 : (a == ("__classdict__" : Str)) = false := by decide) :
    DE X Y (.Call (.Name x p) [.Lambda params body scope lpos] [] pos) (dHeard ok td) := by
  obtain ⟨g, oc, od, dV, kV, doc, pm, an, cdv, ct, osl, us, dvs, lk, hcd, kp, m, bi, vd, rd⟩ := D.ex
  have u0 : us = [] ∧ dvs = [] := by
    have := rd (fun _ => none)
    cases this
    cases vd
    exact ⟨rfl, rfl⟩
  obtain ⟨rfl, rfl⟩ := u0
  refine PE.weak (pe_lamS (T := Y.T) (TT := THeard X.K CS) (k := k) (t := fun E0 σ G R => ∃ (Y' : KJ X.K) (E1 : DXK), Y'.T = Y.T ∧ (∀ F M H, Y'.J F M H → Tabs Y'.T H) ∧ (∀ F M H x v cls d, Rel Y' F M H → ExR X.K F x v cls d → E1 x v M → E0 cls d H) ∧ canE Y' (td E1) σ G R)
    gl m kp lk hcd bi S N0 vis (give g cdv _) tb cod inT onlyT hr L nodef noarg ?_ n1 n2 n3) ?_
  · intro A outer s H E f c' gA r
    constructor
    rintro pins s1 σ H1 Q I ⟨Y', E1, eT, tabs, wish, can⟩
    exact (inner A outer s H E f c' Y' E1 eT r (gA.trans gu) ⟨tabs, _, takes_of rfl rfl rfl rfl, fun σ F M H x v cls d R e z => wish F M H x v cls d R e z⟩).run pins s1 σ H1 Q I can
  · rintro σ H Q0 ⟨F, M, ρ, Q, rs, r, q, kk⟩
    refine ⟨xt.tabs _ _ _ r.j, fun H1 eN T1 => ?_⟩
    have st := r.r.ext eN (fun _ => T1)
    intro p0 hp0
    have sp := RelR.newF (T := Y.T) st.rel hp0 (.tup [.non, .non]) (fun ps w => by cases w)
    have st := st.trans sp
    have r1 : Rel (fromY Y (upd F p0 (.tup [.non, .non])) M (upd H1 p0 (.tup [.non, .non]))) (upd F p0 (.tup [.non, .non])) M (upd H1 p0 (.tup [.non, .non])) := ⟨st.rel, StpR.refl st.rel, Y.cl r.j st⟩
    refine ⟨fromY Y (upd F p0 (.tup [.non, .non])) M (upd H1 p0 (.tup [.non, .non])), fun x v M1 => ok x ∧ Q (.tup [.exc x v, .non]) M1, rfl, fun F M H j => xt.tabs _ _ _ j.2, ?_, _, M, ρ, _, rs.mono sp.same, r1, q, ?_⟩
    · rintro F2 M2 H2 n v cls d R2 ⟨C, dx, u, en, rfl, rfl, ed, ru⟩ ⟨okn, z⟩
      refine ⟨sub n C okn en, fun a ha p hp => ?_⟩
      rw [clm_of] at hp ⊢
      have s1 := RelR.newF (T := Y.T) R2.r ha (ExK C dx a) exK_tbl
      have s2 := RelR.newF (T := Y.T) s1.rel hp (.tup [.ref a, .non]) (fun ps w => by cases w)
      have ne : a ≠ p := fun w => by rw [w, upd_same] at hp; cases hp
      have nd : dx ≠ a := fun w => by rw [w, R2.r.fnone ha] at ed; cases ed
      refine kk (.ref p) (.tup [.exc n v, .non]) _ _ _ (Stp.of r ((st.trans R2.j.1).trans (s1.trans s2))) (.tup (.inl (.inl upd_same)) (.cons (.exc (dx := dx) en ?_ ?_ (ru.mono (s1.same.trans s2.same))) (.cons .non .nil))) z
      · exact s2.same _ _ upd_same
      · exact s2.same _ _ (s1.same _ _ ed)
    · intro v d F2 M2 H2 s2 rp q2 p hp
      have s3 := RelR.newF (T := Y.T) s2.rel.r hp (.tup [.non, v]) (fun ps w => by cases w)
      exact kk (.ref p) (.tup [.non, d]) _ _ _ (Stp.of r ((st.trans s2.s).trans s3)) (.tup (.inl (.inl upd_same)) (.cons .non (.cons (rp.mono s3.same) .nil))) q2
end
end DL

set_option maxHeartbeats 4000000
/-! DX5: a known exception: its value, its class. -/
namespace DL
open PySem PySem.Spec L2
open PyProof.Rows hiding St

/-- the exception classes that may be heard -/
structure Known (K : PySem.W.Frag) (kn : Str → Prop) : Prop where
  of : ∀ x C, kn x → PySem.W.nsIn K mainGlobals x = some (some (.ref C)) → XfC K C ∧ ExcC K C ∧ PySem.W.findIn K (.ref C) "value" = some none
/-- each class under x is one of the class at CY just if b x -/
def SubsOf (K : PySem.W.Frag) (kn : Str → Prop) (CY : Addr) (b : Str → Bool) : Prop := ∀ x C, kn x → PySem.W.nsIn K mainGlobals x = some (some (.ref C)) → PySem.W.kitOne K (.ref C) (.ref CY) = some (b x)
section
variable {X : Cx} {Y : KJ X.K} {p p' pos : Pos} {e : Expr} {t : DTE} {kn : Str → Prop}
theorem inst_exc {pins : List (Addr × Obj)} {σ : L2.St} {H : Hp} {s : Shared} {a C dx : Addr} {fs : List (Str × V)} (I : Inv X pins σ H s) (h1 : H a = some (ExK C dx a)) (h2 : H dx = some (.xd fs)) :
    ∃ (oe od : Obj) (mA : Str → Option Value), PySem.W.InstAt s.heap a oe C (some od) ∧ (∀ n, PySem.W.lookIn n od = some (mA n)) ∧ ∀ f, RelO (fs.lookup f) (mA f) := by
  obtain ⟨⟨oe, vs, he, hz, hd⟩, _, _⟩ := I.hok a _ h1
  have hx : ObjOk X.prog X.w H s.heap dx (.xd fs) := I.hok dx _ h2
  obtain ⟨mA, hns, hr⟩ := hx
  obtain ⟨od, ho, hl⟩ := lookIn_ns hns
  exact ⟨oe, od, mA, ⟨he, hz.1, by unfold PySem.W.notCls; rw [hd] <;> rfl, by rw [hz.2]; exact ho⟩, hl, hr⟩
/-- e.value -/
def dExcV (kn : Str → Prop) (t : DTE) : DTE := fun ρ M Q => t ρ M fun d M1 => ∃ x v, d = .exc x v ∧ kn x ∧ Q v M1
theorem de_excV (T : Known X.K kn) (he : DE X Y e t) (hb : attributeBase e "value" X.env (eval e X.env) = eval e X.env := by rfl) : DE X Y (.Attribute e "value" pos) (dExcV kn t) := by
  constructor
  rintro pins s σ H Q0 I ⟨F, M, ρ, Q, rs, rl, q, k⟩
  let R : VK := fun v H1 => ∃ (a C dx : Addr) (w : V), v = .ref a ∧ XfC X.K C ∧ PySem.W.findIn X.K (.ref C) "value" = some none ∧ H1 a = some (ExK C dx a) ∧ H1 dx = some (.xd [("value", w)]) ∧ Q0 w H1
  refine attr_of hb (thn (he.run pins s σ H R I ⟨F, M, ρ, _, rs, rl, q, fun v d F1 M1 H1 s1 rp q1 => ?_⟩) fun u s1 hh => ?_)
  · obtain ⟨x, w, rfl, kx, q2⟩ := q1
    cases rp with
    | exc en e1 e2 rw_ =>
      obtain ⟨k1, k2, k3⟩ := T.of _ _ kx en
      exact ⟨_, _, _, _, rfl, k1, k3, s1.rel.sub _ _ e1, s1.rel.sub _ _ e2, k _ _ F1 M1 H1 s1 rw_ q2⟩
  · obtain ⟨v, H1, I1, rv, a, C, dx, w, rfl, T1, no, e1, e2, q⟩ := hh
    obtain rfl : u = Value.ref a := rv
    obtain ⟨oe, od, mA, J, hl, hr⟩ := inst_exc I1 e1 e2
    obtain ⟨z, hz, rz⟩ := RelO.some_of (v := w) (o := mA "value") (hr "value")
    exact HandSPX.exc_get I1.kIn J T1.ga T1.gg T1.exC (PySem.W.findObj_own T1.hdC no rfl (by rw [hl, hz])) (handed_of rz) ⟨w, H1, I1.tok _, rz, q⟩
/-- isinstance(e, C) of a known exception -/
def rIsH (K : PySem.W.Frag) : List V → Hp → VK → Prop := fun xs H Q => ∃ (a C dx CY : Addr) (fs : List (Str × V)) (b : Bool), xs = [.ref a, .ref CY] ∧ H a = some (ExK C dx a) ∧ H dx = some (.xd fs) ∧ ExcC K C ∧ PySem.W.kitOne K (.ref C) (.ref CY) = some b ∧ Q (.bl b) H
theorem call_isH : CallR X (.builtin "isinstance") (rIsH X.K) := by
  rintro pins s σ H xs us Q I r ⟨a, C, dx, CY, fs, b, rfl, e1, e2, T, ek, q⟩
  cases r with
  | cons rx rr =>
    cases rr with
    | cons rt rr =>
      cases rr
      cases rx
      cases rt
      obtain ⟨oe, od, mA, J, hl, hr⟩ := inst_exc I e1 e2
      have cl : (PySem.W.clsIn X.K C).isSome = true := by
        obtain ⟨cd, hc, _⟩ := PySem.W.any_some T.hd
        unfold PySem.W.clsIn at hc ⊢
        rw [hc]; rfl
      exact PySem.W.kia_one (PySem.W.kitx_exc cl T.hg T.hk T.hs T.ha T.hn T.ht T.hm) I.kIn J ek (fun z => nomatch z) fun tk => ⟨.bl b, H, I.kept (t' := tk) fun _ _ z => z, rfl, q⟩
def dIsE (kn : Str → Prop) (b : Str → Bool) (t : DTE) : DTE := fun ρ M Q => t ρ M fun d M1 => ∃ x v, d = .exc x v ∧ kn x ∧ Q (.bl (b x)) M1
theorem de_isE {y : Str} {CY : Addr} {b : Str → Bool} (T : Known X.K kn) (sb : SubsOf X.K kn CY b) (m1 : X.mg "isinstance" = none) (m2 : X.mg y = some (.ref CY)) (he : DE X Y e t) (hg : Gl X "isinstance" := by rfl) (hg2 : Gl X y := by rfl) (hd : (y == ("__debug__" : Str)) = false := by decide)
    (s1 : starEach [e, .Name y p'] X.env = (false, eval e X.env) :: starEach [.Name y p'] X.env := by rfl) (s2 : starEach [.Name y p'] X.env = (false, eval (.Name y p') X.env) :: starEach [] X.env := by rfl)
    (hpl : (backTo pos (starEach [.Name y p'] X.env)).any (·.1) = false := by rfl) : DE X Y (.Call (.Name "isinstance" p) [e, .Name y p'] [] pos) (dIsE kn b t) := by
  have h2 : PE X (.Name y p') (tC (.ref CY)) := pe_glob hg2 m2 rfl hd
  refine PE.weak (pe_callB call_isH hg m1 (by decide +kernel) (pa_cons he (pa_cons h2 pa_nil s2) s1) (by decide) (by decide) s1 hpl) ?_
  rintro σ H Q0 ⟨F, M, ρ, Q, rs, rl, q, k⟩
  refine ⟨F, M, ρ, _, rs, rl, q, fun v d F1 M1 H1 s1 rp ⟨x, w, ed, kx, q1⟩ => ?_⟩
  subst ed
  cases rp with
  | exc en e1 e2 rw_ =>
    obtain ⟨k1, k2, k3⟩ := T.of _ _ kx en
    exact ⟨_, _, _, CY, _, b x, rfl, s1.rel.sub _ _ e1, s1.rel.sub _ _ e2, k2, sb x _ kx en, k _ _ F1 M1 H1 s1 (.bl _) q1⟩
end
end DL

set_option maxHeartbeats 4000000
/-! DX6: the end of a law whose defs make lambdas. -/
namespace DL
open PySem PySem.Spec L2 LamX
open PyProof.Rows hiding St

/-- an empty table of code objects -/
abbrev tab0 : Obj := { cls := .none, data := .fields #[] }
abbrev listO (vs : List Value) : Obj := { cls := .type "list", data := .seq vs.toArray }
/-- the law's call over the heap behind the top, with tables at ts -/
theorem glaw_callT {CXa : CXT} {P : Program} {w : World} {K : PySem.W.Frag} {mg mb : Str → Option Value} {k : Nat} {fa a : Addr} {fd : FuncData} {x : Str} {sp : Sp} {s0 : Shared} {vs : List Value} {ns : List Int} {cs : List (Addr × Addr)}
    (KX : K.In s0.heap) (hns : s0.heap.Ns mainGlobals mg) (hb : s0.heap.Ns builtinsNs mb) (hbb : ∀ x : Str, x ≠ "__name__" → mb x = bootBuiltins x) (hlim : s0.heap.NoLimit) (hg : s0.gens = #[])
    (tz : ∀ c ∈ cs, s0.heap.get? c.2 = some tab0) (tn : ∀ c ∈ cs, K.lookup c.2 = none) (hd : ∀ c ∈ cs, PySem.W.CodeHd s0.heap c.1 c.2)
    (bmn : ∃ (bm : Addr) (ob : Obj), mg "__builtins__" = some (.ref bm) ∧ bm ≠ builtinsNs ∧ s0.heap.get? bm = some ob ∧ ob.cls = .type "module" ∧ ob.dict = some builtinsNs ∧ ob.data = .plain)
    (ha : s0.heap.get? a = some (listO vs)) (hi : IntsAre vs ns) (hl : ns.length ≤ sizeLine) (room : Room k callerA)
    (G : ∀ base : Heap, K.In base → base.Ns mainGlobals mg → (∀ c ∈ cs, TabB base mg c.1 c.2) → GnOk P w K mg base CXa k fa fd [x] sp) (nothing : ∀ outer H s e s', ¬ CXa outer H s (fun _ _ _ => False) e s') (bind1 : ∀ (s : Shared) (u : Value), BindsTo s fd ⟨[u], []⟩ [(x, u)])
    (due : ∀ H : Hp, (∀ c ∈ cs, H c.2 = some (.tbl #[])) → SqL K H a (ns.map V.int) → sp [.ref a] H (fun v _ => v = .bl true) fun _ _ _ => False) :
    codeAny (model P w) callerA (.call (.ref fa) ⟨[.ref a], []⟩) (fun r s' => r = .ok (.ret (.bool true)) ∧ OldK s0.heap s'.heap ∧ s'.os = s0.os ∧ AllBare s'.gens) s0 := by
  have rv := vals_ints hi
  have many := hi.length
  let ts : List Addr := cs.map Prod.snd
  have inT : ∀ {c}, c ∈ cs → c.2 ∈ ts := fun h => List.mem_map.mpr ⟨_, h, rfl⟩
  have atT : ∀ {b}, b ∈ ts → s0.heap.get? b = some tab0 := by
    intro b h
    obtain ⟨c, h1, rfl⟩ := List.mem_map.mp h
    exact tz c h1
  have aT : a ∉ ts := by
    intro h
    have z := (atT h).symm.trans ha
    cases congrArg Obj.data (Option.some.inj z)
  have main : ∀ H : Hp, (∀ b ∈ ts, H b = some (.tbl #[])) → (∀ b, b ∉ ts → H b = none ∨ ∃ o xs, H b = some (.frz o (.lst xs))) → SqL K H a (ns.map V.int) → HOk P w H s0.heap → (∀ b, H b ≠ none → b = a ∨ b ∈ ts) → (H a ≠ none → K.lookup a = none) →
      codeAny (model P w) callerA (.call (.ref fa) ⟨[.ref a], []⟩) (fun r s' => r = .ok (.ret (.bool true)) ∧ OldK s0.heap s'.heap ∧ s'.os = s0.os ∧ AllBare s'.gens) s0 := by
    intro H hT only hS ok hA hK
    have two : ∀ {b : Addr} {z : HO}, H b = some z → b = a ∨ b ∈ ts := fun {b z} q => hA b (by rw [q]; exact fun y => by cases y)
    -- what is neither a list nor an empty table is not told
    have off : ∀ {b : Addr} {o : Obj}, s0.heap.get? b = some o → (∀ vs n, o.data ≠ .seq vs n) → o.data ≠ .fields #[] → H b = none := by
      intro b o e n1 n2
      cases q : H b with
      | none => rfl
      | some u =>
        rcases two q with rfl | h
        · rw [ha] at e; cases e; exact (n1 _ _ rfl).elim
        · rw [atT h] at e; cases e; exact (n2 rfl).elim
    have plain : ∀ {b : Addr} {o : Obj} {es : Array DictEntry} {ep : Nat}, s0.heap.get? b = some o → o.data = .dict es ep → H b = none := by
      intro b o es ep e d
      exact off e (fun _ _ z => by rw [d] at z; cases z) (fun z => by rw [d] at z; cases z)
    have ns' : ∀ {b : Addr} {m : Str → Option Value}, s0.heap.Ns b m → (hidT s0.heap H).Ns b m := by
      rintro b m ⟨o, es, ep, e, d, r⟩
      exact ⟨o, es, ep, hidT_get e (plain e d), d, r⟩
    have Kb : K.In (hidT s0.heap H) := by
      intro b o e
      refine hidT_get (KX b o e) ?_
      cases q : H b with
      | none => rfl
      | some u =>
        rcases two q with rfl | h
        · rw [hK (by rw [q]; exact fun y => by cases y)] at e; cases e
        · obtain ⟨c, h1, rfl⟩ := List.mem_map.mp h
          rw [tn c h1] at e; cases e
    have TB : ∀ c ∈ cs, TabB (hidT s0.heap H) mg c.1 c.2 := by
      intro c hc
      obtain ⟨og, eg, pg, e0, dg, _⟩ := hns
      have dg' : ∀ {b}, s0.heap.get? b = some og → b ∉ ts := fun {b} e h => by rw [atT h] at e; cases e; cases dg
      refine ⟨?_, ?_, fun z => dg' e0 (z ▸ inT hc)⟩
      · obtain ⟨o, us, file, tf, flags, tg, inF, text, tt, e1, r1, r2, r3, rest⟩ := hd c hc
        refine ⟨o, us, file, tf, flags, tg, inF, text, tt, hidT_get e1 (off e1 (fun _ _ z => by rw [r2] at z; cases z) fun z => ?_), r1, r2, r3, rest⟩
        rw [r2] at z
        cases z
        simp at r3
      · obtain ⟨bm, ob, m1, m2, m3, m4, m5, m6⟩ := bmn
        have nG : bm ≠ mainGlobals := by
          rintro rfl
          rw [e0] at m3; cases m3
          rw [dg] at m6; cases m6
        have nP : bm ≠ c.2 := by
          rintro rfl
          rw [tz c hc] at m3; cases m3
          cases m6
        exact ⟨bm, ob, m1, m2, nG, nP, hidT_get m3 (off m3 (fun _ _ z => by rw [m6] at z; cases z) fun z => by rw [m6] at z; cases z), m4, m5, m6⟩
    have e0 : Env0 P w K mg (hidT s0.heap H) callerA [] s0 H := by
      refine ⟨rfl, ⟨Kb, ns' hns, ⟨mb, ns' hb, hbb⟩, ?_⟩, fun b o e => of_hidT e, Nat.le_of_eq (hidT_size _ _), trivial, ?_, ok, .of_eq hg⟩
      · obtain ⟨mc, h1, h2⟩ := hlim
        exact ⟨mc, ns' h1, h2⟩
      · intro b hb
        exact absurd (show b ∈ ([] : List Addr) from hb) (by simp)
    refine codeAny_mono ((G _ Kb (ns' hns) TB).go (args := ⟨[.ref a], []⟩) (us := [.ref a]) (vs := [V.ref a]) room rfl e0 (bind1 s0 (.ref a)) (.cons rfl .nil) (due H (fun c hc => hT _ (inT hc)) hS)) ?_
    intro r s' z
    match r, z with
    | .error _, z => exact absurd z (nothing _ _ _ _ _)
    | .ok .next, z => exact z.elim
    | .ok .brk, z => exact z.elim
    | .ok .cont, z => exact z.elim
    | .ok (.ret u), ⟨v, H', os, bare, un, ok', r', q⟩ =>
      obtain rfl : v = .bl true := q
      obtain rfl : u = Value.bool true := r'
      have stays : ∀ b o, b ∉ ts → s0.heap.get? b = some o → s'.heap.get? b = some o := by
        intro b o nb e
        cases q : H b with
        | none => exact un.keep b o e q (fun z => absurd (show b ∈ ([] : List Addr) from z) (by simp)) (by simp)
        | some u =>
          rcases only b nb with z | ⟨ob, xs, z⟩
          · rw [q] at z
            cases z
          · have e1 := (ok b _ z).1
            have e2 := (ok' b _ (un.frzs b ob _ z)).1
            rw [e] at e1
            cases e1
            exact e2
      have grows : ∀ b ∈ ts, ∃ more : Array Value, s'.heap.get? b = some { cls := .none, data := .fields more } := by
        intro b h
        obtain ⟨more, z⟩ := un.tbls b #[] (hT b h)
        exact ⟨_, ok' b _ z⟩
      refine ⟨rfl, ⟨fun b o e => ?_, fun b o e => ?_⟩, os, bare⟩
      · by_cases h : b ∈ ts
        · obtain ⟨more, m⟩ := grows b h
          obtain ⟨c, h1, rfl⟩ := List.mem_map.mp h
          rw [tz c h1] at e
          cases e
          exact .inr (.inl ⟨((hd c h1).tab (tz c h1)).isCodeTable, rfl, #[], more, rfl, by rw [Array.empty_append]; exact m⟩)
        · exact .inl (stays b o h e)
      · by_cases h : b ∈ ts
        · obtain ⟨more, m⟩ := grows b h
          exact ⟨_, m⟩
        · exact ⟨o, stays b o h e⟩
  cases hk : K.lookup a with
  | some o =>
    have e := KX a o hk
    rw [ha] at e
    cases e
    refine main (fun b => if b ∈ ts then some (.tbl #[]) else none) (fun b h => if_pos h) (fun b h => .inl (if_neg h)) (.inr ⟨_, vs.toArray, _, hk, rfl, rfl, rfl, by rw [List.size_toArray, many]; exact hl, by simpa using rv⟩) ?_ ?_ fun z => absurd (if_neg aT) z
    · intro b u z
      by_cases h : b ∈ ts
      · have z' := (if_pos h).symm.trans z
        cases z'
        exact atT h
      · have z' := (if_neg h).symm.trans z
        cases z'
    · intro b z
      by_cases h : b ∈ ts
      · exact .inr h
      · exact absurd (if_neg h) z
  | none =>
    have at1 : (if a = a then some (HO.frz (listO vs) (.lst (ns.map V.int))) else if a ∈ ts then some (.tbl #[]) else none) = some (.frz (listO vs) (.lst (ns.map V.int))) := if_pos rfl
    refine main (fun b => if b = a then some (.frz (listO vs) (.lst (ns.map V.int))) else if b ∈ ts then some (.tbl #[]) else none) ?_ ?_ (.inl (.inr ⟨_, at1⟩)) ?_ ?_ fun _ => hk
    · intro b h
      have ne : b ≠ a := fun z => aT (z ▸ h)
      exact (if_neg ne).trans (if_pos h)
    · intro b h
      by_cases e : b = a
      · exact .inr ⟨_, _, if_pos e⟩
      · exact .inl ((if_neg e).trans (if_neg h))
    · intro b u z
      by_cases e : b = a
      · have z' := (if_pos e).symm.trans z
        cases z'
        subst e
        exact ⟨ha, by rw [List.length_map]; exact hl, vs, _, rv, ha⟩
      · have z1 := (if_neg e).symm.trans z
        by_cases h : b ∈ ts
        · have z' := (if_pos h).symm.trans z1
          cases z'
          exact atT h
        · have z' := (if_neg h).symm.trans z1
          cases z'
    · intro b z
      by_cases e : b = a
      · exact .inl e
      · by_cases h : b ∈ ts
        · exact .inr h
        · exact absurd ((if_neg e).trans (if_neg h)) z
/-- the defs that make lambdas: each with its code object and its table -/
def TabsOf (q : Program) (K : PySem.W.Frag) (cs : List (Str × Addr × Addr)) : Prop := ∀ c ∈ cs, ((recsOf q).find? fun e => e.name == c.1).isSome = true ∧ PySem.W.tabIn K c.1 = some c.2 ∧ K.lookup c.2.2 = none
theorem gwalkT {l : PySem.W.OpenLaw} {n k : Nat} {q : Program} {loose : List Str} {XP : (Str → Option Value) → Heap → Prop} {YP : World → Heap → Prop} {d : DefRec} {K : Params → PySem.W.Frag} {x : Str}
    (most : l.most = some n) (le : n ≤ sizeLine) (dfl : d.params.defaults = []) (room : Room k callerA) (inY : ∀ (w : World) (h : Heap), YP w h → (K w.params).In h)
    (G : ∀ (w : World) (mg : Str → Option Value) (fa : Addr) (h : Heap), (K w.params).In h → h.Ns mainGlobals mg → mg d.name = some (.ref fa) →
      ∃ (cs : List (Str × Addr × Addr)) (sp : Sp) (fd : FuncData), TabsOf q (K w.params) cs ∧ (∀ (s : Shared) (u : Value), BindsTo s fd ⟨[u], []⟩ [(x, u)]) ∧
        (∀ (H : Hp) (a : Addr) (ns : List Int), ns.length ≤ n → (∀ c ∈ cs, H c.2.2 = some (.tbl #[])) → SqL (K w.params) H a (ns.map V.int) → sp [.ref a] H (fun v _ => v = .bl true) fun _ _ _ => False) ∧
        ∀ base : Heap, (K w.params).In base → base.Ns mainGlobals mg → (∀ c ∈ cs, TabB base mg c.2.1 c.2.2) → GnOk l.prog w (K w.params) mg base (L2.CX l.prog w) k fa fd [x] sp) :
    PySem.W.WalkO q loose XP YP l.row.toRowW d [] (fun f vs => PySem.call f vs) := by
  refine Att.attach_call most dfl ?_
  intro w s0 s1 mg mb fa o pm cd doc a vs ns G0 Y ho hd hcd hmg hobj hints hlen hg
  have KX := inY w _ Y
  obtain ⟨cs, sp, fd, tabs, hb, due, hF⟩ := G w mg fa _ KX G0.T.g hmg
  have look : ∀ c ∈ cs.map Prod.snd, ∃ c0 ∈ cs, c = c0.2 ∧ PySem.W.CodeHd s1.heap c.1 c.2 ∧ s1.heap.get? c.2 = some tab0 := by
    intro c hc
    obtain ⟨c0, h0, rfl⟩ := List.mem_map.mp hc
    obtain ⟨f1, f2, f3⟩ := tabs c0 h0
    obtain ⟨dr, hdr⟩ := Option.isSome_iff_exists.mp f1
    obtain ⟨g1, g2⟩ := PySem.W.tab_of G0.T KX hdr f2
    exact ⟨c0, h0, rfl, g1, g2⟩
  refine glaw_callT (cs := cs.map Prod.snd) KX G0.T.g G0.T.b G0.T.builtins G0.T.nolimit hg (fun c hc => ?_) (fun c hc => ?_) (fun c hc => ?_) G0.T.bmain hobj hints (Nat.le_trans hlen le) room (fun base KB NB TB => hF base KB NB fun c hc => TB c.2 (List.mem_map.mpr ⟨c, hc, rfl⟩))
    (fun _ _ _ _ _ ⟨_, _, _, _, _, _, _, _, _, _, _, _, z⟩ => z) hb fun H hT hS => due H a ns hlen (fun c hc => hT c.2 (List.mem_map.mpr ⟨c, hc, rfl⟩)) hS
  · obtain ⟨_, _, _, _, z⟩ := look c hc; exact z
  · obtain ⟨c0, h0, rfl, _⟩ := look c hc; exact (tabs c0 h0).2.2
  · obtain ⟨_, _, _, z, _⟩ := look c hc; exact z
/-- the tables are in order at the law's start -/
theorem tabs0 {H : Hp} {cs : List (Str × Addr × Addr)} (f : Str → Str) (h : ∀ c ∈ cs, H c.2.2 = some (.tbl #[])) : Tabs (cs.map fun c => (c.2.2, f c.1)) H := by
  intro p hp
  obtain ⟨c, hc, rfl⟩ := List.mem_map.mp hp
  exact .nil (h c hc)
end DL

set_option maxHeartbeats 4000000
/-! DL13: enumerate over a text, range with a step, min of three, tuple(..), targets out of a list, a def in a slot. -/
namespace DL
open PySem PySem.Spec L2
open PyProof.Rows hiding St

section
variable {X : Cx} {Y : KJ X.K} {pos p tpos : Pos} {e e2 e3 : Expr} {t u v : DTE} {elts : List Expr} {kk : Nat}
/-! ### enumerate over a text -/
def numD (xs : List DL.D) : List DL.D := (xs.zipIdx).map fun p => .tup [.int (p.2 : Nat), p.1]
def IteS (x : Str) : It := ⟨fun i _ => i < x.cps.size,
  fun i H v H' => ∃ T c, v = .ref T ∧ H T = none ∧ H' = upd H T (.tup [.int (i : Nat), .str ⟨#[c]⟩]) ∧ x.cps[i]? = some c,
  fun i _ => i = x.cps.size⟩
theorem turn_enumS {P : Program} {w : World} {K : PySem.W.Frag} {a it : Addr} {x : Str} {tk : Tok} (ne : a ≠ it) :
    Turn P w K (.Tuple elts kk tpos) (IteS x) [a, it] a (fun i h => (∃ old, IsEnum h a it ((i : Nat) : Int) old) ∧ h.IsStrIter it (strIterType x) x tk i) where
  mem := by simp
  obj := fun i h st c hc => by
    obtain ⟨⟨old, he⟩, o, e1, _, d1⟩ := st
    have e' : c = a ∨ c = it := by simpa using hc
    rcases e' with q | q
    · rw [q]; exact ⟨_, he, fun v q => nomatch q⟩
    · rw [q]; exact ⟨o, e1, fun v q => by rw [d1] at q; cases q⟩
  keep := fun i h h' st kp => by
    obtain ⟨⟨old, he⟩, o, e1, c1⟩ := st
    exact ⟨⟨old, kp a (by simp) _ he⟩, o, kp it (by simp) o e1, c1⟩
  item := by
    intro X hP hw hK hc i pins s σ H E I hf st hg
    subst hP hw hK
    obtain ⟨⟨old, he⟩, hs⟩ := st
    have D1 := Draws.text (prog := X.prog) (w := X.w) (A := X.A.in1) (I.ok.hd hc) it x tk
    have al : a < s.heap.objs.size := Heap.lt_size he
    have il : it < s.heap.objs.size := by obtain ⟨_, z, _⟩ := hs; exact Heap.lt_size z
    refine wpAny_pyNext_enum_itemD D1 he hs hg ne (by simpa using ne) fun y h' tk' py out hs' hT hsz hk => ?_
    obtain ⟨c, u, hx, rfl⟩ := py
    refine ⟨_, rfl, wpAny_letOwnedTupleGo_enum (s := { s with heap := h', toks := tk' + 1 }) out fun h'' he' sb => ?_⟩
    have hT2 : h''.get? s.heap.objs.size = some { cls := .type "tuple", data := .seq #[.int (i : Nat) tk', .str ⟨#[c]⟩ u] } := (sb.2 _ (Nat.ne_of_gt al)).trans hT
    have new : ObjOk X.prog X.w (upd H s.heap.objs.size (.tup [.int (i : Nat), .str ⟨#[c]⟩])) h'' s.heap.objs.size (.tup [.int (i : Nat), .str ⟨#[c]⟩]) :=
      ⟨by show 2 ≤ sizeLine; decide, [.int (i : Nat) tk', .str ⟨#[c]⟩ u], .cons ⟨_, rfl⟩ (.cons ⟨u, rfl⟩ .nil), ⟨_, hT2, rfl, _, rfl⟩⟩
    have I1 : Inv X pins σ (upd H s.heap.objs.size (.tup [.int (i : Nat), .str ⟨#[c]⟩])) { s with heap := h'', toks := tk' + 1 } :=
      I.turnedNew (t' := tk' + 1) (ch := [a, it]) (fun b o hb q => (sb.2 b (fun z => hb (by simp [z]))).trans (hk b o (fun z => hb (by simp [z])) (fun z => hb (by simp [z])) q)) hf (Nat.le_refl _) new
    refine ⟨.ref s.heap.objs.size, _, I1, rfl, ⟨_, c, rfl, I.hok.fresh (Nat.le_refl _), rfl, hx⟩, ⟨⟨.str ⟨#[c]⟩ u, ?_⟩, ?_⟩, fun b hb => ?_⟩
    · have e1 : ((i + 1 : Nat) : Int) = (i : Int) + 1 := by omega
      rw [e1]; exact he'
    · obtain ⟨o, e1, c1⟩ := hs'
      exact ⟨o, (sb.2 _ (fun q => ne q.symm)).trans e1, c1⟩
    · have e' : b = a ∨ b = it := by simpa using hb
      have lt : b < s.heap.objs.size := by rcases e' with q | q <;> rw [q] <;> assumption
      rw [upd_ne (Nat.ne_of_lt lt)]
      exact (hf b hb).1
  done := by
    intro X hP hw hK hc i pins s σ H E I hf st hg
    subst hP hw hK
    obtain ⟨⟨old, he⟩, hs⟩ := st
    obtain ⟨f0, f1, f2, f3, f4, f5⟩ := hf it (by simp)
    have D1 := Draws.text (prog := X.prog) (w := X.w) (A := X.A.in1) (I.ok.hd hc) it x tk
    have hg' : i = x.cps.size := hg
    subst hg'
    exact wpAny_pyNext_enum_endD D1 he hs fun h' eb => ⟨rfl, I.turned (t' := s.toks) (fun b o hb q => eb b o hb q) f0 f1 f3 f4 f5⟩
  self := fun A i s Q E st h => let ⟨⟨_, he⟩, _⟩ := st; wpAny_pyIter_enum he h
def iEnumS (ta : TA) : TI := fun σ H R => ta σ H fun vs H1 => ∃ x, vs = [.str x] ∧ R (IteS x) H1
theorem pi_enumS {ta : TA} (hg : Gl X "enumerate") (hm : X.mg "enumerate" = none) (ha : PA X [e] ta) (hs : starEach [e] X.env = (false, eval e X.env) :: starEach [] X.env) :
    PI X (.Tuple elts kk tpos) (.Call (.Name "enumerate" p) [e] [] pos) (iEnumS ta) := by
  constructor
  intro pins s σ H R I h
  refine Call_ (ld_blt I hg hm boot_enumerate (PyProof.Rows.callWith_type1 (thn (ha.run pos pins s σ H _ I h) ?_) hs rfl))
  rintro us s1 ⟨vs, H1, I1, r1, x, rfl, q⟩
  obtain ⟨u1, rfl, ⟨t1, rfl⟩⟩ := vals1 r1
  refine call_enumerate_str fun h' he hit hsz hk => wpAny_pyIter_enum he ?_
  have I2 : Inv X pins σ H1 { s1 with heap := h' } := I1.kept (t' := s1.toks) hk
  refine ⟨s1.heap.objs.size + 1, [s1.heap.objs.size + 1, s1.heap.objs.size], _, _, H1, rfl, I2, turn_enumS (Nat.succ_ne_self _), ⟨⟨.none, he⟩, hit⟩, fun b hb => ?_, q⟩
  have e' : b = s1.heap.objs.size + 1 ∨ b = s1.heap.objs.size := by simpa using hb
  have le : s1.heap.objs.size ≤ b := by
    rcases e' with z | z
    · rw [z]; exact Nat.le_add_right _ _
    · rw [z]; exact Nat.le_refl _
  exact I1.fpOk le (I1.hok.fresh le)
def dEnumS (t : DTE) : DTI := fun ρ M R => t ρ M fun d M1 => ∃ x, d = .str x ∧ R (numD (signs x)) (fun _ => True) M1
theorem numD_get {xs : List DL.D} {i : Nat} {d : DL.D} (h : (numD xs)[i]? = some d) : ∃ x, xs[i]? = some x ∧ d = .tup [.int (i : Nat), x] := by
  unfold numD at h
  rw [List.getElem?_map, List.getElem?_zipIdx] at h
  cases e : xs[i]? with
  | none => rw [e] at h; cases h
  | some x => rw [e] at h; cases h; exact ⟨x, rfl, by simp⟩
theorem di_enumS (hm : X.mg "enumerate" = none) (he : DE X Y e t) (hg : Gl X "enumerate" := by rfl) (hs : starEach [e] X.env = (false, eval e X.env) :: starEach [] X.env := by rfl) :
    DI X Y (.Tuple elts kk tpos) (.Call (.Name "enumerate" p) [e] [] pos) (dEnumS t) := by
  refine PI.weak (pi_enumS hg hm (pa_cons he pa_nil hs) hs) ?_
  rintro σ H R0 ⟨F, M, ρ, R, rs, rl, q, k⟩
  refine ⟨F, M, ρ, _, rs, rl, q, fun v d F1 M1 H1 s1 rp1 ⟨x, ex, q1⟩ => ?_⟩
  subst ex
  cases rp1
  refine ⟨x, rfl, k _ _ _ F1 M1 H1 s1 ⟨fun F3 M3 H3 s3 r3 g => ?_⟩ q1⟩
  have hl : (numD (signs x)).length = x.cps.size := by unfold numD signs; simp
  refine ⟨hl, fun i dd hi => ?_⟩
  have hlt : i < x.cps.size := by rw [← hl]; exact (List.getElem?_eq_some_iff.mp hi).1
  obtain ⟨a, ha, rfl⟩ := numD_get hi
  refine ⟨hlt, fun vv H4 yy => ?_⟩
  obtain ⟨T, c, rfl, hT, eH, hx⟩ := yy
  unfold signs at ha
  rw [List.getElem?_map, Array.getElem?_toList, hx] at ha
  cases ha
  exact jw_pair s3 r3 (.int _) (.str _) hT eH

/-! ### range(i, j, -1) -/
def dnD (i : Int) (n : Nat) : List DL.D := (List.range n).map fun k => .int (i + (k : Nat) * (-1))
def dRangeDn (t u v : DTE) : DTI := fun ρ M R => t ρ M fun d M1 => u ρ M1 fun d' M2 => v ρ M2 fun d'' M3 => ∃ i j, d = .int i ∧ d' = .int j ∧ d'' = .int (-1) ∧ (-(2 ^ 62) ≤ i ∧ i < 2 ^ 62 ∧ -(2 ^ 62) ≤ j ∧ j < 2 ^ 62) ∧ R (dnD i (i - j).toNat) (fun _ => True) M3
theorem jw_down {K : PySem.W.Frag} {Y : KJ K} {F : Hp} {lo : Int} {n : Nat} : JW Y F (Itc lo (-1) n) (dnD lo n) (fun _ => True) := by
  refine ⟨fun F1 M1 H1 s r g => ⟨by show n ≤ (dnD lo n).length; simp [dnD], fun i d hi => ?_⟩⟩
  unfold dnD at hi
  rw [List.getElem?_map] at hi
  by_cases h : i < n
  · rw [List.getElem?_range h] at hi
    cases hi
    refine ⟨h, fun v H2 ⟨e2, hv⟩ => ?_⟩
    subst e2 hv
    exact ⟨F1, Stp.refl r, .int _⟩
  · rw [List.getElem?_eq_none (by simpa using h)] at hi
    cases hi
theorem di_rangeDn {tg : Expr} (hm : X.mg "range" = none) (he : DE X Y e t) (he2 : DE X Y e2 u) (he3 : DE X Y e3 v) (hg : Gl X "range" := by rfl) (hs : starEach [e, e2, e3] X.env = (false, eval e X.env) :: starEach [e2, e3] X.env := by rfl)
    (hs2 : starEach [e2, e3] X.env = (false, eval e2 X.env) :: starEach [e3] X.env := by rfl) (hs3 : starEach [e3] X.env = (false, eval e3 X.env) :: starEach [] X.env := by rfl) (hpl : (backTo pos (starEach [e2, e3] X.env)).any (·.1) = false := by rfl) :
    DI X Y tg (.Call (.Name "range" p) [e, e2, e3] [] pos) (dRangeDn t u v) := by
  refine PI.weak (pi_range3 hg hm (pa_cons he (pa_cons he2 (pa_cons he3 pa_nil hs3) hs2) hs) hs hpl) ?_
  rintro σ H R0 ⟨F, M, ρ, R, rs, rl, q, k⟩
  refine ⟨F, M, ρ, _, rs, rl, q, fun v1 d1 F1 M1 H1 s1 rp1 q1 => ?_⟩
  refine ⟨F1, M1, ρ, _, rs.mono s1.same, s1.rel, q1, fun v2 d2 F2 M2 H2 s2 rp2 q2 => ?_⟩
  refine ⟨F2, M2, ρ, _, rs.mono (s1.same.trans s2.same), s2.rel, q2, fun v3 d3 F3 M3 H3 s3 rp3 ⟨i, j, e1, e2, e3, ⟨b1, b2, b3, b4⟩, q3⟩ => ?_⟩
  subst e1 e2 e3
  cases rp1
  cases rp2
  cases rp3
  exact ⟨i, j, -1, _, rfl, RgC.neg b1 b2 b3 b4, k _ _ _ F3 M3 H3 ((s1.trans s2).trans s3) jw_down q3⟩

/-! ### min of three -/
def rMin3D : RDL := fun ds M Q => ∃ i j k, ds = [.int i, .int j, .int k] ∧ Q (.int (let m := if j < i then j else i; if k < m then k else m)) M
theorem rp3 {K : PySem.W.Frag} {F : Hp} {vs : List V} {a b c : DL.D} (r : RpAll K F vs [a, b, c]) : ∃ x y z, vs = [x, y, z] ∧ Rp K F x a ∧ Rp K F y b ∧ Rp K F z c := by
  cases r with
  | cons r1 r =>
    obtain ⟨y, z, rfl, r2, r3⟩ := rp2 r
    exact ⟨_, y, z, rfl, r1, r2, r3⟩
theorem cd_min3 (hc : X.calm = true) : CallD X Y (.builtin "min") rMin3D := by
  intro pins s σ H vs us Q0 I r ⟨F, M, ds, Q, rp, rl, ⟨i, j, k', e, q⟩, k⟩
  subst e
  obtain ⟨v1, v2, v3, rfl, r1, r2, r3⟩ := rp3 rp
  cases r1
  cases r2
  cases r3
  refine call_min3Nu hc pins s σ H _ us Q0 I r ⟨_, _, _, _, rfl, ?_, k _ _ F M H (Stp.refl rl) (.int _) q⟩
  have e1 : nuLt (V.int j) (V.int i) = some (decide (j < i)) := rfl
  by_cases h : j < i
  · have e2 : nuLt (V.int k') (V.int j) = some (decide (k' < j)) := rfl
    by_cases h2 : k' < j <;> simp [nuMin3, nuMin2, e1, e2, h, h2]
  · have e2 : nuLt (V.int k') (V.int i) = some (decide (k' < i)) := rfl
    by_cases h2 : k' < i <;> simp [nuMin3, nuMin2, e1, e2, h, h2]

/-! ### tuple(a text), tuple(a list) -/
theorem extend_signs {prog : Program} {w : World} {A : Around} {E : Value → Shared → Prop} {s : Shared} {x : Str} {tk : Tok} {Q : List Value → Shared → Prop} (calm : A.handled = none) (small : x.cps.size ≤ sizeLine)
    (k : ∀ (h' : Heap) (n : Nat) (acc : Array Value), (∀ b o, s.heap.get? b = some o → h'.get? b = some o) → ItemsOf (SignAt x) acc x.cps.size → Q acc.toList { s with heap := h', toks := n }) :
    wpAny (model prog w) A (collect (.str x tk)) Q E s := by
  have at0 : (s.heap.push { cls := .type "list", data := .seq ([] : List Value).toArray }).get? s.heap.objs.size = some { cls := .type "list", data := .seq #[] 0 } := Heap.get?_push_size _ rfl
  have old : ∀ b o, s.heap.get? b = some o → b ≠ s.heap.objs.size := fun b o q => Nat.ne_of_lt (Heap.lt_size q)
  unfold collect
  apply wpAny_bind
  apply wpAny_runValue
  refine codeAny_builtin F.entry_proto_collect ?_
  rw [Around.under_plainId F.plain_proto_collect _]
  show wpAny _ A.in1 (newList [] >>= fun l => again (.builtin "list.__iadd__" ⟨[l, .str x tk], []⟩)) _ _ s
  apply wpAny_bind
  refine wpAny_newObj_type ?_
  refine wpAny_pure ⟨plainId_quiet F.plain_list_iadd _, codeAny_builtin F.entry_list_iadd ?_⟩
  rw [Around.under_plainId F.plain_list_iadd _]
  show wpAny _ A.in1 (Builtin.List.listExtendWith (.ref s.heap.objs.size) (.str x tk) (.ref s.heap.objs.size)) _ _ _
  let R : Result → Shared → Prop := fun rr s' => rr = .ok (.ret (.ref s.heap.objs.size)) ∧ ∃ (h' : Heap) (n : Nat) (acc : Array Value) (c : Nat), s' = { s with heap := h', toks := n } ∧
      (∀ b o, s.heap.get? b = some o → h'.get? b = some o) ∧ h'.get? s.heap.objs.size = some { cls := .type "list", dict := none, data := .seq acc c, slots := #[] } ∧ ItemsOf (SignAt x) acc x.cps.size
  have ends : ∀ (rr : Result) (s' : Shared), R rr s' → ∃ acc : Array Value, rr = .ok (.ret (.ref s.heap.objs.size)) ∧ wpAny (model prog w) A (load s.heap.objs.size >>= fun o => pure o) (fun o s'' => ∃ c, o = { cls := .type "list", dict := none, data := .seq acc c, slots := #[] } ∧ Q acc.toList s'') E s' := by
    rintro rr s' ⟨rfl, h', n, acc, c, rfl, kp, a1, it⟩
    exact ⟨acc, rfl, wpAny_bind (wpAny_load a1 (wpAny_pure ⟨c, rfl, k h' n acc kp it⟩))⟩
  refine wpAny_mono (wpAny_extend_str (A := A) (R := R) (s := { s with heap := s.heap.push { cls := .type "list", data := .seq ([] : List Value).toArray } }) (hn := small) calm x tk _ _ 0 at0
    (fun h' n acc c kp a1 it => ⟨rfl, h', n, acc, c, rfl, fun b o q => kp b o (old b o q) (Heap.get?_push_of_some _ q), a1, it⟩)) ?_ ?_
  · intro fin s' h
    match fin, h with
    | .done f, ⟨e, h', n, acc, c, e2, kp, a1, it⟩ =>
      cases e
      subst e2
      show wpAny _ A (load s.heap.objs.size >>= _) _ _ _
      exact wpAny_bind (wpAny_load a1 (wpAny_pure (k h' n acc kp it)))
    | .again c', h =>
      refine ⟨h.1, codeAny_mono h.2 ?_⟩
      rintro rr s'' ⟨rfl, h', n, acc, c, rfl, kp, a1, it⟩
      show wpAny _ A (load s.heap.objs.size >>= _) _ _ _
      exact wpAny_bind (wpAny_load a1 (wpAny_pure (k h' n acc kp it)))
  · intro e s' h
    exact absurd h.1 (by simp)
end
end DL

set_option maxHeartbeats 4000000
/-! DL14: tuple(..), targets out of a list, a def in a slot, promises without exceptions. -/
namespace DL
open PySem PySem.Spec L2
open PyProof.Rows hiding St

section
variable {prog : Program} {w : World} {A : Around} {E : Value → Shared → Prop} {s : Shared}
theorem tuple_signs {x : Str} {tk : Tok} {Q : Value → Shared → Prop} (calm : A.handled = none) (small : x.cps.size ≤ sizeLine)
    (k : ∀ (h' : Heap) (n : Nat) (acc : Array Value), (∀ b o, s.heap.get? b = some o → h'.get? b = some o) → ItemsOf (SignAt x) acc x.cps.size → Q (.ref h'.objs.size) { s with heap := h'.push { cls := .type "tuple", data := .seq acc }, toks := n }) :
    wpAny (model prog w) A (call (.type "tuple") [.str x tk]) Q E s := by
  have code : codeAny (model prog w) A.in1 (.call (.builtin "tuple.__new__") ⟨[.type "tuple", .str x tk], []⟩) (wants (fun obj s1 => s1.TypeIs obj "tuple" ∧ Q obj s1) E) s := by
    apply codeAny_of_tree
    show wpAny _ A.in1.in1 (do checkBuiltinCall "tuple.__new__" ⟨[.type "tuple", .str x tk], []⟩; again (.builtin "tuple.__new__" ⟨[.type "tuple", .str x tk], []⟩)) _ _ s
    refine wpAny_bind (wpAny_of_eq (F.newCall_tuple_1 _) (wpAny_pure ⟨plainId_quiet F.plain_tuple_new _, codeAny_builtin F.entry_tuple_new ?_⟩))
    rw [Around.under_plainId F.plain_tuple_new _]
    have f1 := sub_tuple_self
    have f2 := init_tuple_lookup
    have f3 := madeHere_tuple
    have ty : s.TypeIs (.str x tk) "str" := rfl
    have cl : A.in1.in1.handled = none := calm
    wp_walk using wpAny_typeOf ty, extend_signs (A := A.in1.in1) (x := x) (tk := tk) cl small
    intro h' n acc kp it
    show wpAny _ _ (Builtin.Tuple.tupleExact acc.toList.toArray >>= fun v => ret v) _ _ _
    unfold Builtin.Tuple.tupleExact
    have e : acc.toList.toArray = acc := by simp
    rw [e]
    refine wpAny_bind (wpAny_newObj_type ?_ (by show acc.size ≤ sizeLine; rw [it.1]; exact small))
    exact wpAny_pure ⟨⟨_, Heap.get?_push_size _ rfl, rfl⟩, k h' n acc kp it⟩
  refine callType_codes (Q₁ := fun obj s1 => s1.TypeIs obj "tuple" ∧ Q obj s1) F.called_tuple (F.typeCall_tuple_1 _) F.entry_object_init code ?_
  intro obj s1 h1
  exact ⟨h1.1, F.args_object_init_2 obj _, object_init_meets F.called_tuple.init.lookup F.called_tuple.made (by decide) prog w A.in1 _ s1 ⟨h1.1, rfl, h1.2⟩⟩
end
section
variable {X : Cx} {Y : KJ X.K} {pos p : Pos}
def rTupD : RDL
  | [.str x], M, Q => x.cps.size ≤ sizeLine ∧ Q (.tup (signs x)) M
  | [.tup xs], M, Q => Q (.tup xs) M
  | [d], M, Q => ∃ xs, lstOf M d = some xs ∧ Q (.tup xs) M
  | _, _, _ => False
theorem cd_tup (hc : X.calm = true) : CallD X Y (.type "tuple") rTupD := by
  intro pins s σ H vs us Q0 I r ⟨F, M, ds, Q, rp, rl, q, k⟩
  unfold rTupD at q
  split at q
  · rename_i x
    obtain ⟨v, rfl, r1⟩ := rp1 rp
    obtain ⟨small, q⟩ := q
    cases r1
    obtain ⟨u, rfl, ⟨t, rfl⟩⟩ := vals1 r
    refine tuple_signs (I.ok.hd hc) small fun h' n acc kp it => ?_
    have vals : Vals (x.cps.toList.map fun c => V.str ⟨#[c]⟩) acc.toList := by
      refine vals_of_at (by simp [it.1]) fun i v w hv hw => ?_
      rw [Array.getElem?_toList] at hw
      obtain ⟨c, t, hc, rfl⟩ := it.2 i w hw
      rw [List.getElem?_map, Array.getElem?_toList, hc] at hv
      cases hv
      exact ⟨t, rfl⟩
    have I2 : Inv X pins σ H { s with heap := h', toks := n } := I.kept kp
    refine ⟨.ref _, upd H h'.objs.size (.tup (x.cps.toList.map fun c => V.str ⟨#[c]⟩)), I2.laid (t' := n) (fun b o q => Heap.get?_push_of_some _ q) (Nat.le_refl _) ⟨?_, acc.toList, vals, ?_⟩, rfl, newT_ok rl (signs_rp x) q k _ (I2.hok.fresh (Nat.le_refl _))⟩
    · rw [List.length_map, Array.length_toList]; exact small
    · exact ⟨_, Heap.get?_push_size _ rfl, rfl, _, by rw [Array.toArray_toList]⟩
  · obtain ⟨v, rfl, r1⟩ := rp1 rp
    cases r1 with
    | tup sq ra => exact call_tuple_of pins s σ H _ us Q0 I r ⟨_, _, rfl, .inr ⟨Same.tseq rl.sub sq, k _ _ F M H (Stp.refl rl) (.tup sq ra) q⟩⟩
  · obtain ⟨v, rfl, r1⟩ := rp1 rp
    obtain ⟨xs, e1, q⟩ := q
    obtain ⟨a, ws, rfl, h1, ra⟩ := lstOf_rp rl r1 e1
    exact call_tuple_of pins s σ H _ us Q0 I r ⟨a, ws, rfl, .inl ⟨h1, fun l hl => newT_ok rl ra q k l hl⟩⟩
  · exact q.elim
/-! ### targets out of a list -/
def dgLst (n : Nat) (t : DTGs) : DTG := fun d ρ M Q => ∃ ds, lstOf M d = some ds ∧ ds.length = n ∧ t ds ρ M Q
theorem dg_lst {es : List Expr} {k : Nat} {t : DTGs} {n : Nat} {ws : List Nat} (hc : X.calm = true) (h : DGs X Y es t ws)
    (hn : (assignEach es X.env).length = n := by rfl) (hst : (assignEach es X.env).findIdx? (·.1) = none := by rfl) : DG X Y (.Tuple es k pos) (dgLst n t) ws := by
  refine PG.weak (pg_lst hc h hn hst) ?_
  rintro v σ H Q0 ⟨F, M, ρ, d, Q, rp, rs, r, ⟨ds, e, hl, q⟩, k⟩
  obtain ⟨a, vs, rfl, h1, ra⟩ := lstOf_rp r rp e
  exact ⟨_, _, rfl, h1, by rw [ra.length]; exact hl, F, M, ρ, ds, Q, ra, rs, r, q, k⟩
/-! ### a def in a slot -/
/-- the def at f, by its promise over data -/
def CalA (P : Program) (w : World) (K : PySem.W.Frag) (T : TT8) (mg : Str → Option Value) (base : Heap) (k : Nat) (f : Addr) (sp : DSp) : Prop :=
  ∃ (fd : FuncData) (ps : List Str), GnOk P w K mg base (L2.CX P w) k f fd ps (lift K T sp) ∧ PySem.W.keepIn K (.ref f) = true ∧ Binds K fd ps []
theorem Cal.at {P : Program} {w : World} {K : PySem.W.Frag} {T : TT8} {mg : Str → Option Value} {base : Heap} {k : Nat} {x : Str} {sp : DSp} (C : Cal P w K T mg base k x [] sp) : ∃ f, CalA P w K T mg base k f sp ∧ Glob K mg x (.ref f) := by
  obtain ⟨f, fd, ps, dvs, us, G, m, kp, b, vd, rd⟩ := C.ex
  have := rd (fun _ => Option.none)
  cases this
  cases vd
  exact ⟨f, ⟨fd, ps, G, kp, b⟩, .ref f, .ref f, m, rfl, fun F => .ref f⟩
theorem CalA.mono {P : Program} {w : World} {K : PySem.W.Frag} {T : TT8} {mg : Str → Option Value} {base : Heap} {j k : Nat} {f : Addr} {sp : DSp} (C : CalA P w K T mg base j f sp) (h : j ≤ k) : CalA P w K T mg base k f sp := by
  obtain ⟨fd, ps, G, r⟩ := C
  exact ⟨fd, ps, G.up h, r⟩
def dCallV (i : Nat) (S : Addr → DSp → Prop) (t : DTA) (E : DXK) : DTE := fun ρ M Q => ∃ f sp, ρ[i]? = some (some (.ref f)) ∧ S f sp ∧ t ρ M fun ds M1 => sp ds M1 Q E
theorem de_callV {i k : Nat} {x : Str} {S : Addr → DSp → Prop} {e : Expr} {args : List Expr} {t : DTA} {E : DXK} (A : ∀ f sp, S f sp → CalA X.prog X.w X.K Y.T X.mg X.base k f sp) (hr : Room k X.A) (gu : X.A.guards = some []) (g : XG X Y E) (ha : DA X Y (e :: args) t)
    (hN : X.N[i]? = some x := by rfl) (hv : Vis X.env.scope x := by first | exact Or.inl rfl | exact Or.inr (Or.inl rfl) | exact Or.inr (Or.inr rfl)) (hd : (x == ("__debug__" : Str)) = false := by decide) (hcd : (x == ("__classdict__" : Str)) = false := by decide)
    (he : starEach (e :: args) X.env = (false, eval e X.env) :: starEach args X.env := by rfl) (hpl : (backTo pos (starEach args X.env)).any (·.1) = false := by rfl) :
    DE X Y (.Call (.Name x p) (e :: args) [] pos) (dCallV i S t E) := by
  constructor
  rintro pins s σ H Q0 I ⟨F, M, ρ, Q, rs, rl, ⟨f, sp, er, hS, q⟩, k⟩
  obtain ⟨fd, ps, G, kp, bi⟩ := A f sp hS
  obtain ⟨v, ev, rv⟩ := rs.2 i _ er
  cases rv
  apply wpAny_Call_Name_kw
  refine thn ((pe_var (pos := p) hN hv hd hcd).run pins s σ H (fun v G => v = .ref f ∧ G = H) I ⟨.ref f, ev, rfl, rfl⟩) ?_
  rintro u s1 ⟨w0, G0, I1, rel, e1, e2⟩
  subst e1
  rw [e2] at I1
  obtain rfl : u = Value.ref f := rel
  refine PySem.W.callWith_K (h₀ := X.base) I1.ok.mod.kin kp (thn (ha.run pos pins s1 σ H (fun vs H1 => lift X.K Y.T sp vs H1 Q0 (xw Y E)) I1 ⟨F, M, ρ, _, rs, rl, q, ?_⟩) ?_) he hpl
  · intro vs ds F1 M1 H1 s1 rp q1
    exact ⟨ds, F1, M1, Q, E, rp, s1.rel.r, g.tabs _ _ _ s1.rel.j, q1, fun v d F2 M2 H2 s2 => k v d F2 M2 H2 (s1.trans (Stp.of s1.rel s2)), fun x v cls d F2 M2 H2 s2 e z => ⟨F2, M2, x, v, (Stp.of s1.rel s2).rel, e, z⟩⟩
  · rintro us s2 ⟨vs, H2, I2, r, q2⟩
    refine ⟨I2.kIn, run_gn G hr gu bi .nil g.out I2 r ?_⟩
    rw [List.append_nil]
    exact q2
/-! ### promises without exceptions -/
abbrev DS1 := List DL.D → Mp → DK → Prop
abbrev quiet (sp : DS1) : DSp := fun ds M Q _ => sp ds M Q
abbrev Cal1 (P : Program) (w : World) (K : PySem.W.Frag) (T : TT8) (mg : Str → Option Value) (base : Heap) (k : Nat) (x : Str) (sp : DS1) : Prop := Cal P w K T mg base k x [] (quiet sp)
def dCall1 (sp : DS1) (t : DTA) : DTE := fun ρ M Q => t ρ M fun ds M1 => sp ds M1 Q
theorem de_call1 {k : Nat} {x : Str} {sp : DS1} {e : Expr} {args : List Expr} {t : DTA} (C : Cal1 X.prog X.w X.K Y.T X.mg X.base k x sp) (hr : Room k X.A) (gu : X.A.guards = some []) (g : XT Y) (ha : DA X Y (e :: args) t) (hg : Gl X x := by rfl)
    (hd : (x == ("__debug__" : Str)) = false := by decide) (he : starEach (e :: args) X.env = (false, eval e X.env) :: starEach args X.env := by rfl) (hpl : (backTo pos (starEach args X.env)).any (·.1) = false := by rfl) :
    DE X Y (.Call (.Name x p) (e :: args) [] pos) (dCall1 sp t) := by
  refine PE.weak (de_call C hr gu g ha hg hd he hpl) ?_
  rintro σ H Q0 ⟨F, M, ρ, Q, rs, rl, q, k⟩
  refine ⟨F, M, ρ, Q, rs, rl, ?_, k⟩
  show t ρ M fun ds M1 => sp (ds ++ []) M1 Q
  simp only [List.append_nil]; exact q
theorem de_call10 {k : Nat} {x : Str} {sp : DS1} (C : Cal1 X.prog X.w X.K Y.T X.mg X.base k x sp) (hr : Room k X.A) (gu : X.A.guards = some []) (g : XT Y) (hg : Gl X x := by rfl) (hd : (x == ("__debug__" : Str)) = false := by decide) : DE X Y (.Call (.Name x p) [] [] pos) (dCall1 sp dNil) := by
  refine PE.weak (de_call0 C hr gu g hg hd) ?_
  rintro σ H Q0 ⟨F, M, ρ, Q, rs, rl, q, k⟩
  exact ⟨F, M, ρ, Q, rs, rl, q, k⟩
def dCallE (sp : DSp) (t : DTA) (E : DXK) : DTE := fun ρ M Q => t ρ M fun ds M1 => sp ds M1 Q E
theorem de_callE {k : Nat} {x : Str} {sp : DSp} {e : Expr} {args : List Expr} {t : DTA} {E : DXK} (C : Cal X.prog X.w X.K Y.T X.mg X.base k x [] sp) (hr : Room k X.A) (gu : X.A.guards = some []) (g : XG X Y E) (ha : DA X Y (e :: args) t) (hg : Gl X x := by rfl)
    (hd : (x == ("__debug__" : Str)) = false := by decide) (he : starEach (e :: args) X.env = (false, eval e X.env) :: starEach args X.env := by rfl) (hpl : (backTo pos (starEach args X.env)).any (·.1) = false := by rfl) :
    DE X Y (.Call (.Name x p) (e :: args) [] pos) (dCallE sp t E) := by
  refine PE.weak (de_callX C hr gu g ha hg hd he hpl) ?_
  rintro σ H Q0 ⟨F, M, ρ, Q, rs, rl, q, k⟩
  refine ⟨F, M, ρ, Q, rs, rl, ?_, k⟩
  show t ρ M fun ds M1 => sp (ds ++ []) M1 Q E
  simp only [List.append_nil]; exact q
theorem Cal.on {P : Program} {w : World} {K : PySem.W.Frag} {T T' : TT8} {mg : Str → Option Value} {base : Heap} {k : Nat} {x : Str} {es : List DL.D} {sp : DSp} (C : Cal P w K T mg base k x es sp) (h : T' = T) : Cal P w K T' mg base k x es sp := h ▸ C
theorem CalA.on {P : Program} {w : World} {K : PySem.W.Frag} {T T' : TT8} {mg : Str → Option Value} {base : Heap} {k : Nat} {f : Addr} {sp : DSp} (C : CalA P w K T mg base k f sp) (h : T' = T) : CalA P w K T' mg base k f sp := h ▸ C
theorem dcal1 {P : Program} {w : World} {K : PySem.W.Frag} {T : TT8} {mg : Str → Option Value} {base : Heap} {x qual : Str} {st : Stmt} {N ps : List Str} {k : Nat} {sp : DS1} (h : Has K mg x qual st ps []) (S : FnScope N ps (defScope st)) {t : DTS}
    (body : ∀ f, DBody P w K T mg base k N qual st f fun _ => t) (read : ∀ ds M Q, sp ds M Q → ds.length = ps.length ∧ t { nx := fun _ M' => Q .non M', rt := Q } (dstart N ds) M) : Cal1 P w K T mg base (k + 1) x sp :=
  dcal h S body fun ds M Q E => read ds M Q
theorem Cal1.weak {P : Program} {w : World} {K : PySem.W.Frag} {T : TT8} {mg : Str → Option Value} {base : Heap} {k : Nat} {x : Str} {sp1 sp2 : DS1} (C : Cal1 P w K T mg base k x sp1)
    (h : ∀ ds M Q, sp2 ds M Q → sp1 ds M fun d M1 => ∃ M2, SubM M2 M1 ∧ Q d M2) : Cal1 P w K T mg base k x sp2 := Cal.weak C fun ds M Q E => h ds M Q
end
end DL

set_option maxHeartbeats 4000000
/-! DL15: defs that make lambdas. -/
namespace DL
open PySem PySem.Spec L2
open PyProof.Rows hiding St

/-- the name of the lambdas of the def x -/
def lamQ (x : Str) : Str := x ++ ".<locals>." ++ "<lambda>"
/-- a body whose code object is known -/
def DBodyC (P : Program) (w : World) (K : PySem.W.Frag) (T : TT8) (mg : Str → Option Value) (base : Heap) (k : Nat) (N : List Str) (qual : Str) (st : Stmt) (f : Addr) (cdv : Value) (t : DXK → DTS) : Prop :=
  ∀ (A : Around) (outer : List Env) (s : Shared) (H : Hp) (E : XK) (Y : KJ K) (E1 : DXK), Y.T = T → Room k (A.deeper (envOfC qual (defScope st) s.heap.objs.size f cdv)) → (A.deeper (envOfC qual (defScope st) s.heap.objs.size f cdv)).guards = some [] →
    XG (cxOf (L2.CX P w) P w K mg base N qual (defScope st) f cdv A outer s H E) Y E1 → DSs (cxOf (L2.CX P w) P w K mg base N qual (defScope st) f cdv A outer s H E) Y (defBody st) (t E1)
section
variable {P : Program} {w : World} {K : PySem.W.Frag} {T : TT8} {mg : Str → Option Value} {base : Heap} {x : Str} {st : Stmt} {N ps : List Str} {k : Nat} {sp : DSp} {f : Addr} {oc : Value} {od : Option Addr} {dV kV doc pm : Value} {an : Option Addr} {cd ct : Value} {osl : Array (Option Value)}
theorem dgnL (lk : K.lookup f = some ⟨oc, od, .func (PySem.W.fnOf x x (defArgs st) (defBody st) (defScope st) dV kV doc pm an cd ct), osl⟩) (hcd : PySem.W.codeIn K cd x = true) (S : FnScope N ps (defScope st)) {t : DXK → DTS}
    (body : DBodyC P w K T mg base k N x st f cd t) (read : ∀ ds M Q E, sp ds M Q E → ds.length = ps.length ∧ t E { nx := fun _ M' => Q .non M', rt := Q } (dstart N ds) M) :
    GnOk P w K mg base (L2.CX P w) (k + 1) f (PySem.W.fnOf x x (defArgs st) (defBody st) (defScope st) dV kV doc pm an cd ct) ps (lift K T sp) := by
  refine gfn_of lk hcd S ?_ ?_
  · rintro vs H Q E0 ⟨ds, F, M, Q, E, rp, _, _, q, _⟩
    rw [rp.length]; exact (read ds M Q E q).1
  · rintro A outer s H vs Q0 E0 room gu ⟨ds, F, M, Q, E, rp, r, tb, q, kk, ke⟩
    have g : XG (cxOf (L2.CX P w) P w K mg base N x (defScope st) f cd A outer s H E0) (fromE K T F M H) E :=
      ⟨fun F M H j => j.2, fun cls d _ H => E0 cls d H, takes_of rfl rfl rfl rfl, fun σ F' M' H' y v cls d R e z => ke y v cls d F' M' H' R.j.1 e z⟩
    have s0 : Rel (fromE K T F M H) F M H := ⟨r, StpR.refl r, tb⟩
    exact ⟨_, body A outer s H E0 (fromE K T F M H) E rfl room gu g, F, M, dstart N ds, _, relS_start rp, s0, (read ds M Q E q).2, ⟨fun _ _ F' M' H' s' _ q' => kk .non .non F' M' H' s'.s .non q', fun v d F' M' H' s' rp' q' => kk v d F' M' H' s'.s rp' q', fun _ _ _ _ _ _ _ z => z.elim, fun _ _ _ _ _ _ _ z => z.elim⟩⟩
/-- a def of the text whose code object is at c -/
def HasL (K : PySem.W.Frag) (mg : Str → Option Value) (x : Str) (st : Stmt) (ps : List Str) (c : Addr) : Prop :=
  ∃ (f : Addr) (oc : Value) (od : Option Addr) (kV doc pm : Value) (an : Option Addr) (ct : Value) (osl : Array (Option Value)),
    K.lookup f = some ⟨oc, od, .func (PySem.W.fnOf x x (defArgs st) (defBody st) (defScope st) .none kV doc pm an (.ref c) ct), osl⟩ ∧ PySem.W.codeIn K (.ref c) x = true ∧ PySem.W.keepIn K (.ref f) = true ∧ mg x = some (.ref f) ∧ Binds K (PySem.W.fnOf x x (defArgs st) (defBody st) (defScope st) .none kV doc pm an (.ref c) ct) ps []
theorem code_tab {c PP : Addr} (a : PySem.W.nsIn K mainGlobals x = some (some (.ref f))) (lk : K.lookup f = some ⟨oc, od, .func (PySem.W.fnOf x x (defArgs st) (defBody st) (defScope st) dV kV doc pm an cd ct), osl⟩) (t : PySem.W.tabIn K x = some (c, PP)) : cd = .ref c := by
  unfold PySem.W.tabIn at t
  rw [a] at t
  simp only [lk] at t
  cases cd with
  | ref c' =>
    simp only at t
    split at t
    · split at t
      · cases t; rfl
      · cases t
    · cases t
  | _ => simp at t
theorem hasL_of {h : Heap} (X : K.In h) (G : h.Ns mainGlobals mg) (D : Dfn K x st) {c PP : Addr} (t : PySem.W.tabIn K x = some (c, PP))
    (b : ∀ (kV doc pm : Value) (an : Option Addr) (cd ct : Value) (us : List Value), us.length = ps.length → bindArgs (PySem.W.fnOf x x (defArgs st) (defBody st) (defScope st) .none kV doc pm an cd ct) ⟨us, []⟩ = pure (ps.zip us)) : HasL K mg x st ps c := by
  obtain ⟨f, oc, od, kV, doc, pm, an, cd, ct, osl, a, l, hc, k⟩ := D
  obtain rfl := code_tab a l t
  exact ⟨f, oc, od, kV, doc, pm, an, ct, osl, l, hc, k, PySem.W.mg_of X G a, .all (b kV doc pm an _ ct)⟩
theorem dcalL {c : Addr} (h : HasL K mg x st ps c) (S : FnScope N ps (defScope st)) {t : DXK → DTS} (body : ∀ f, DBodyC P w K T mg base k N x st f (.ref c) t)
    (read : ∀ ds M Q E, sp ds M Q E → ds.length = ps.length ∧ t E { nx := fun _ M' => Q .non M', rt := Q } (dstart N ds) M) : Cal P w K T mg base (k + 1) x [] sp := by
  obtain ⟨f, oc, od, kV, doc, pm, an, ct, osl, lk, hcd, kp, m, b⟩ := h
  exact ⟨f, _, ps, [], [], dgnL lk hcd S (body f) read, m, kp, b, .nil, fun F => .nil⟩
end
end DL

set_option maxHeartbeats 4000000
/-! DL16: a tuple, some times. -/
namespace DL
open PySem PySem.Spec L2
open PyProof.Rows hiding St
def rRepTD : RD2 := fun x y M Q => ∃ xs n, x = .tup xs ∧ y = .int n ∧ xs ≠ [] ∧ xs.length ≤ 1000 ∧ 2 ≤ n ∧ n ≤ 1000 ∧ Q (.tup (List.replicate n.toNat xs).flatten) M
section
variable {X : Cx} {Y : KJ X.K}
theorem od_repT : OpD X Y (binaryOp .Mult) rRepTD := by
  intro pins s σ H x y v u Q0 I rx ry ⟨F, M, d, e, Q, r1, r2, rl, ⟨xs, n, e1, e2, h1, h2, h3, h4, q⟩, k⟩
  subst e1 e2
  cases r2
  cases r1 with
  | tup sq ra =>
    refine op_repT pins s σ H _ _ v u Q0 I rx ry ⟨_, n, _, rfl, rfl, Same.tseq rl.sub sq, ?_, h3, h4, by rw [ra.length]; exact h2, fun p hp => newT_ok rl (ra.rep _) q k p hp⟩
    intro z
    subst z
    cases ra
    exact h1 rfl
end
end DL

set_option maxHeartbeats 4000000
/-! DX7: objects with fields: o.f, o.f = e, C(..), o.m(..); texts' replace. -/
namespace DL
open PySem PySem.Spec L2
open PyProof.Rows hiding St

section
variable {X : Cx} {Y : KJ X.K} {pos pos' apos p : Pos} {o e : Expr} {es : List Expr} {t to tv : DTE} {ta : DTA} {x f m : Str}
/-- the field f of an instance of the class that stands under x -/
structure Fld (K : PySem.W.Frag) (x f : Str) : Prop where
  ex : ∃ C, PySem.W.nsIn K mainGlobals x = some (some (.ref C)) ∧ L2.Cls K C ∧ NoAttr K C f
def dFld (x f : Str) (t : DTE) : DTE := fun ρ M Q => t ρ M fun d M1 => ∃ a fs v, d = .ref a ∧ M1 a = some (.obj x fs) ∧ fs.lookup f = some v ∧ Q v M1
theorem de_fld (W : Fld X.K x f) (he : DE X Y e t) (hb : attributeBase e f X.env (eval e X.env) = eval e X.env := by rfl) : DE X Y (.Attribute e f pos) (dFld x f t) := by
  obtain ⟨C, n, c, na⟩ := W.ex
  refine PE.weak (pe_fld he hb) ?_
  rintro σ H Q0 ⟨F, M, ρ, Q, rs, rl, q, k⟩
  refine ⟨F, M, ρ, _, rs, rl, q, fun v d F1 M1 H1 s1 rp1 ⟨a, fs, y, e1, hm, hl, q1⟩ => ?_⟩
  subst e1
  cases rp1
  obtain ⟨C', dx, vs, h1, n', rf⟩ := s1.rel.obj hm
  cases n.symm.trans n'
  obtain ⟨u, hu, ru⟩ := rf.look hl
  exact ⟨a, C, dx, vs, u, rfl, h1, c, na, hu, k _ _ F1 M1 H1 s1 ru q1⟩
def dSetF (x f : Str) (to tv : DTE) : DTS := fun D ρ M => tv ρ M fun y M1 => to ρ M1 fun o M2 => ∃ a fs, o = .ref a ∧ M2 a = some (.obj x fs) ∧ fs.length < 1000 ∧ D.nx ρ (mu M2 a (.obj x (putD f y fs)))
theorem ds_setF {value : Expr} (W : Fld X.K x f) (ho : DE X Y o to) (hv : DE X Y value tv) (hs : swapsWith value (some (.Attribute o f pos')) pos.line X.env = pure false := by rfl) : DS X Y (.Assign [.Attribute o f pos'] value pos) (dSetF x f to tv) := by
  obtain ⟨C, n, c, na⟩ := W.ex
  refine PS.weak (ps_fld ho hv hs) ?_
  rintro D0 σ H ⟨F, M, ρ, D, rs, rl, q, k⟩
  refine ⟨F, M, ρ, _, rs, rl, q, fun y d F1 M1 H1 s1 r1 q1 => ⟨F1, M1, ρ, _, rs.mono s1.same, s1.rel, q1, fun o od F2 M2 H2 s2 r2 ⟨a, fs, e, hm, hl, q2⟩ => ?_⟩⟩
  subst e
  cases r2
  obtain ⟨C', dx, vs, h1, n', rf⟩ := s2.rel.obj hm
  cases n.symm.trans n'
  have s3 := s2.rel.setO hm h1 n (rf.put (f := f) (r1.mono s2.same))
  exact ⟨a, C, dx, vs, rfl, h1, c, na, by rw [rf.length]; exact hl, k.nx σ ρ F2 _ _ ((s1.trans s2).trans s3) (rs.mono (s1.same.trans s2.same)) q2⟩
end
/-! ### methods -/
section
variable {X : Cx} {CX : CXT} {k : Nat} {C f : Addr} {m : Str} {fd : FuncData} {ps : List Str} {sp : Sp} {dvs : List V} {ds : List Value} {E : XK} {x : Str} {p pos apos : Pos} {o e : Expr} {es : List Expr} {ta : TE} {t : TA}
theorem pe_gmeth {pl : Sem Bool} (he : PE X o ta) (c : L2.Cls X.K C) (hm : Meth X.K C m f) (G : GnOk X.prog X.w X.K X.mg X.base CX k f fd ps sp) (room : Room k X.A) (gu : X.A.guards = some []) (bi : Binds X.K fd ps ds) (dv : Vals dvs ds) (out : Passes CX X E) (ha : PA X (e :: es) t)
    (hst : starEach (e :: es) X.env = (false, eval e X.env) :: starEach es X.env := by rfl) (hpl : (backTo pos (starEach es X.env)).any (·.1) = false := by rfl)
    (ht : eval (.Call (.Attribute o m apos) (e :: es) [] pos) X.env = (do
      let ov ← eval o X.env
      standAt apos.atName
      let (f, first) ← holding [ov] (getMethod ov m pl)
      callWith pos f first (backTo pos (starEach (e :: es) X.env)) (backToKw pos (keywordEach [] X.env))) := by rfl) :
    PE X (.Call (.Attribute o m apos) (e :: es) [] pos) (tMeth C m sp dvs E ta t) := by
  refine ⟨fun pins s σ H Q I h => ?_⟩
  refine PySem.W.methodCall_KW (pl := pl) (thn (he.run pins s σ H _ I h) fun u s1 ⟨x, H1, I1, rx, a, dx, fs, ex, ea, l, q⟩ => ?_) ht
  subst ex
  obtain rfl : u = Value.ref a := rx
  refine getmeth_ok I1 ea c hm l ?_
  refine PySem.W.callWith_K (first := [.ref a]) (h₀ := X.base) I.ok.mod.kin hm.kp (thn (ha.run pos pins s1 σ H1 _ I1 q) fun us s2 ⟨vs, H2, I2, r, q2⟩ => ⟨I2.kIn, ?_⟩) hst hpl
  exact run_gn (us := .ref a :: us) (vs := .ref a :: vs) G room gu bi dv out I2 (.cons rfl r) q2
theorem pe_gmeth0 {pl : Sem Bool} (he : PE X o ta) (c : L2.Cls X.K C) (hm : Meth X.K C m f) (G : GnOk X.prog X.w X.K X.mg X.base CX k f fd ps sp) (room : Room k X.A) (gu : X.A.guards = some []) (bi : Binds X.K fd ps ds) (dv : Vals dvs ds) (out : Passes CX X E)
    (ht : eval (.Call (.Attribute o m apos) [] [] pos) X.env = (do
      let ov ← eval o X.env
      standAt apos.atName
      let (f, first) ← holding [ov] (getMethod ov m pl)
      callWith pos f first (backTo pos (starEach [] X.env)) (backToKw pos (keywordEach [] X.env))) := by rfl) :
    PE X (.Call (.Attribute o m apos) [] [] pos) (tMeth C m sp dvs E ta tNil) := by
  refine ⟨fun pins s σ H Q I h => ?_⟩
  refine PySem.W.methodCall_KW (pl := pl) (thn (he.run pins s σ H _ I h) fun u s1 ⟨x, H1, I1, rx, a, dx, fs, ex, ea, l, q⟩ => ?_) ht
  subst ex
  obtain rfl : u = Value.ref a := rx
  refine getmeth_ok I1 ea c hm l ?_
  exact PySem.W.callWith_K0 (first := [.ref a]) I1.kIn hm.kp (run_gn (us := [.ref a]) (vs := [.ref a]) G room gu bi dv out I1 (.cons rfl .nil) q)
theorem run_gmake {pins : List (Addr × Obj)} {σ : St} {H : Hp} {s : Shared} {Q : VK} {us : List Value} {vs : List V} (M : Mk X.K C f) (G : GnOk X.prog X.w X.K X.mg X.base CX k f fd ps sp) (hr : Room (k + 1) X.A) (gu : X.A.guards = some []) (hb : Binds X.K fd ps ds) (hd : Vals dvs ds)
    (hx : Passes CX X E) (I : Inv X pins σ H s) (r : Vals vs us)
    (h : ∀ x dx, H x = none → H dx = none → dx ≠ x → sp (.ref x :: (vs ++ dvs)) (upd (upd H dx (.own x)) x (.ins C dx [])) (fun v H2 => v = .non ∧ Q (.ref x) H2) E) :
    wpAny (model X.prog X.w) X.A (call (.ref C) us) (EP X pins σ Q) X.xe s := by
  have hq := h (s.heap.objs.size + 1) s.heap.objs.size (I.hok.fresh (Nat.le_succ _)) (I.hok.fresh (Nat.le_refl _)) (Nat.ne_of_lt (Nat.lt_succ_self _))
  have I2 := Inv.made (C := C) I
  have r2 : Vals (V.ref (s.heap.objs.size + 1) :: (vs ++ dvs)) (Value.ref (s.heap.objs.size + 1) :: (us ++ ds)) := .cons rfl (r.append hd)
  have hl : (Value.ref (s.heap.objs.size + 1) :: us ++ ds).length = ps.length := by
    have e := r2.length
    rw [G.many hq] at e
    exact e.symm
  refine wpAny_call (make_map (f := f) I.kIn M.makes M.init (beq_iff_eq.mp M.fn) (codeAny_mono (G.go (args := ⟨Value.ref (s.heap.objs.size + 1) :: us, []⟩) (us := Value.ref (s.heap.objs.size + 1) :: (us ++ ds)) (hr.make C us []) gu
    (I2.env0.make C us []) (hb _ (Value.ref (s.heap.objs.size + 1) :: us) I2.kIn hl) r2 hq) fun r s' hq' => ?_))
  cases r with
  | error e => exact hx pins σ _ _ e s' I2 hq'
  | ok fl =>
    cases fl with
    | ret u =>
      obtain ⟨v, H', I3, rv, ev, q3⟩ := I2.after hq'
      subst ev
      exact ⟨rv, ⟨V.ref (s.heap.objs.size + 1), H', I3, rfl, q3⟩⟩
    | next => exact False.elim hq'
    | brk => exact False.elim hq'
    | cont => exact False.elim hq'
theorem pe_gmake (M : Mk X.K C f) (G : GnOk X.prog X.w X.K X.mg X.base CX k f fd ps sp) (hr : Room (k + 1) X.A) (gu : X.A.guards = some []) (hg : Gl X x) (hm : X.mg x = some (.ref C)) (hb : Binds X.K fd ps ds) (hd : Vals dvs ds) (hx : Passes CX X E)
    (ha : PA X (e :: es) t) (hdb : (x == ("__debug__" : Str)) = false := by decide) (he : starEach (e :: es) X.env = (false, eval e X.env) :: starEach es X.env := by rfl) (hpl : (backTo pos (starEach es X.env)).any (·.1) = false := by rfl) :
    PE X (.Call (.Name x p) (e :: es) [] pos) (tMake C sp dvs E t) := by
  refine ⟨fun pins s σ H Q I h => ?_⟩
  refine wpAny_Call_Name_kw (ld_glob I hg hm ?_ hdb)
  refine PySem.W.callWith_K (h₀ := X.base) I.ok.mod.kin M.kp (thn (ha.run pos pins s σ H _ I h) fun us s1 ⟨vs, H1, I1, r, q⟩ => ⟨I1.kIn, ?_⟩) he hpl
  exact run_gmake M G hr gu hb hd hx I1 r q
end
/-- a method m of the class that stands under x, by its promise over data -/
structure CalM (P : Program) (w : World) (K : PySem.W.Frag) (T : TT8) (mg : Str → Option Value) (base : Heap) (k : Nat) (x m : Str) (sp : DS1) : Prop where
  ex : ∃ (C f : Addr) (fd : FuncData) (ps : List Str), PySem.W.nsIn K mainGlobals x = some (some (.ref C)) ∧ L2.Cls K C ∧ Meth K C m f ∧ GnOk P w K mg base (L2.CX P w) k f fd ps (lift K T (quiet sp)) ∧ Binds K fd ps []
theorem CalM.mono {P : Program} {w : World} {K : PySem.W.Frag} {T : TT8} {mg : Str → Option Value} {base : Heap} {j k : Nat} {x m : Str} {sp : DS1} (C : CalM P w K T mg base j x m sp) (h : j ≤ k) : CalM P w K T mg base k x m sp := by
  obtain ⟨c, f, fd, ps, a, b, d, G, r⟩ := C.ex
  exact ⟨c, f, fd, ps, a, b, d, G.up h, r⟩
theorem CalM.on {P : Program} {w : World} {K : PySem.W.Frag} {T T' : TT8} {mg : Str → Option Value} {base : Heap} {k : Nat} {x m : Str} {sp : DS1} (C : CalM P w K T mg base k x m sp) (h : T' = T) : CalM P w K T' mg base k x m sp := h ▸ C
/-- the class that stands under x is made by its __init__ -/
structure CalC (P : Program) (w : World) (K : PySem.W.Frag) (T : TT8) (mg : Str → Option Value) (base : Heap) (k : Nat) (x : Str) (sp : DS1) : Prop where
  ex : ∃ (C f : Addr) (fd : FuncData) (ps : List Str), mg x = some (.ref C) ∧ PySem.W.nsIn K mainGlobals x = some (some (.ref C)) ∧ Mk K C f ∧ GnOk P w K mg base (L2.CX P w) k f fd ps (lift K T (quiet sp)) ∧ Binds K fd ps []
theorem CalC.mono {P : Program} {w : World} {K : PySem.W.Frag} {T : TT8} {mg : Str → Option Value} {base : Heap} {j k : Nat} {x : Str} {sp : DS1} (C : CalC P w K T mg base j x sp) (h : j ≤ k) : CalC P w K T mg base k x sp := by
  obtain ⟨c, f, fd, ps, a, b, d, G, r⟩ := C.ex
  exact ⟨c, f, fd, ps, a, b, d, G.up h, r⟩
theorem CalC.on {P : Program} {w : World} {K : PySem.W.Frag} {T T' : TT8} {mg : Str → Option Value} {base : Heap} {k : Nat} {x : Str} {sp : DS1} (C : CalC P w K T mg base k x sp) (h : T' = T) : CalC P w K T' mg base k x sp := h ▸ C
section
variable {X : Cx} {Y : KJ X.K} {pos apos p : Pos} {o e : Expr} {es : List Expr} {to : DTE} {ta : DTA} {x m : Str} {k : Nat} {sp : DS1}
def dMeth (x m : Str) (sp : DS1) (to : DTE) (ta : DTA) : DTE := fun ρ M Q => to ρ M fun d M1 => ∃ a fs, d = .ref a ∧ M1 a = some (.obj x fs) ∧ fs.lookup m = none ∧ ta ρ M1 fun ds M2 => sp (d :: ds) M2 Q
theorem can_meth {C : Addr} {σ : St} {H : Hp} {Q0 : VK} (tb : XT Y) (n : PySem.W.nsIn X.K mainGlobals x = some (some (.ref C))) (h : canE Y (dMeth x m sp to ta) σ H Q0) :
    tMeth C m (lift X.K Y.T (quiet sp)) [] (xw Y fun _ _ _ => False) (canE Y to) (canA Y ta) σ H Q0 := by
  obtain ⟨F, M, ρ, Q, rs, rl, q, k⟩ := h
  refine ⟨F, M, ρ, _, rs, rl, q, fun v d F1 M1 H1 s1 rp1 ⟨a, fs, e1, hm, hl, q1⟩ => ?_⟩
  subst e1
  cases rp1
  obtain ⟨C', dx, vs, h1, n', rf⟩ := s1.rel.obj hm
  cases n.symm.trans n'
  refine ⟨a, dx, vs, rfl, h1, rf.look0 hl, F1, M1, ρ, _, rs.mono s1.same, s1.rel, q1, fun ws ds F2 M2 H2 s2 rp2 q2 => ?_⟩
  show lift X.K Y.T (quiet sp) (V.ref a :: (ws ++ [])) H2 Q0 (xw Y fun _ _ _ => False)
  rw [List.append_nil]
  exact ⟨.ref a :: ds, F2, M2, Q, fun _ _ _ => False, .cons (.ref a) rp2, s2.rel.r, tb.tabs _ _ _ s2.rel.j, q2, fun v d F3 M3 H3 s3 => k v d F3 M3 H3 ((s1.trans s2).trans (Stp.of s2.rel s3)), fun _ _ _ _ _ _ _ _ _ z => z.elim⟩
theorem de_meth {pl : Sem Bool} (W : CalM X.prog X.w X.K Y.T X.mg X.base k x m sp) (hr : Room k X.A) (gu : X.A.guards = some []) (g : XT Y) (ho : DE X Y o to) (ha : DA X Y (e :: es) ta)
    (hst : starEach (e :: es) X.env = (false, eval e X.env) :: starEach es X.env := by rfl) (hpl : (backTo pos (starEach es X.env)).any (·.1) = false := by rfl)
    (ht : eval (.Call (.Attribute o m apos) (e :: es) [] pos) X.env = (do
      let ov ← eval o X.env
      standAt apos.atName
      let (f, first) ← holding [ov] (getMethod ov m pl)
      callWith pos f first (backTo pos (starEach (e :: es) X.env)) (backToKw pos (keywordEach [] X.env))) := by rfl) :
    DE X Y (.Call (.Attribute o m apos) (e :: es) [] pos) (dMeth x m sp to ta) := by
  obtain ⟨C, f, fd, ps, n, c, me, G, b⟩ := W.ex
  exact PE.weak (pe_gmeth (pl := pl) ho c me G hr gu b .nil g.none.out ha hst hpl ht) fun σ H Q0 q => can_meth g n q
theorem de_meth0 {pl : Sem Bool} (W : CalM X.prog X.w X.K Y.T X.mg X.base k x m sp) (hr : Room k X.A) (gu : X.A.guards = some []) (g : XT Y) (ho : DE X Y o to)
    (ht : eval (.Call (.Attribute o m apos) [] [] pos) X.env = (do
      let ov ← eval o X.env
      standAt apos.atName
      let (f, first) ← holding [ov] (getMethod ov m pl)
      callWith pos f first (backTo pos (starEach [] X.env)) (backToKw pos (keywordEach [] X.env))) := by rfl) :
    DE X Y (.Call (.Attribute o m apos) [] [] pos) (dMeth x m sp to dNil) := by
  obtain ⟨C, f, fd, ps, n, c, me, G, b⟩ := W.ex
  refine PE.weak (pe_gmeth0 (pl := pl) ho c me G hr gu b .nil g.none.out ht) fun σ H Q0 q => ?_
  obtain ⟨F, M, ρ, Q, rs, rl, q, k⟩ := q
  refine ⟨F, M, ρ, _, rs, rl, q, fun v d F1 M1 H1 s1 rp1 ⟨a, fs, e1, hm, hl, q1⟩ => ?_⟩
  subst e1
  cases rp1
  obtain ⟨C', dx, vs, h1, n', rf⟩ := s1.rel.obj hm
  cases n.symm.trans n'
  exact ⟨a, dx, vs, rfl, h1, rf.look0 hl, [.ref a], F1, M1, Q, fun _ _ _ => False, .cons (.ref a) .nil, s1.rel.r, g.tabs _ _ _ s1.rel.j, q1, fun v d F3 M3 H3 s3 => k v d F3 M3 H3 (s1.trans (Stp.of s1.rel s3)), fun _ _ _ _ _ _ _ _ _ z => z.elim⟩
def dMake (x : Str) (sp : DS1) (ta : DTA) : DTE := fun ρ M Q => ta ρ M fun ds M1 => ∀ a, M1 a = none → sp (.ref a :: ds) (mu M1 a (.obj x [])) fun v M2 => v = .non ∧ Q (.ref a) M2
theorem de_make (W : CalC X.prog X.w X.K Y.T X.mg X.base k x sp) (hr : Room (k + 1) X.A) (gu : X.A.guards = some []) (g : XT Y) (ha : DA X Y (e :: es) ta) (hg : Gl X x := by rfl)
    (hd : (x == ("__debug__" : Str)) = false := by decide) (he : starEach (e :: es) X.env = (false, eval e X.env) :: starEach es X.env := by rfl) (hpl : (backTo pos (starEach es X.env)).any (·.1) = false := by rfl) :
    DE X Y (.Call (.Name x p) (e :: es) [] pos) (dMake x sp ta) := by
  obtain ⟨C, f, fd, ps, m, n, mk, G, b⟩ := W.ex
  refine PE.weak (pe_gmake mk G hr gu hg m b .nil g.none.out ha hd he hpl) ?_
  rintro σ H Q0 ⟨F, M, ρ, Q, rs, rl, q, k⟩
  refine ⟨F, M, ρ, _, rs, rl, q, fun vs ds F1 M1 H1 s1 rp q1 a dx ha hdx ne => ?_⟩
  rw [List.append_nil]
  have s2 := s1.rel.newF hdx (.own a)
  have ha2 : upd H1 dx (.own a) a = none := by rw [upd_ne (Ne.symm ne)]; exact ha
  have s3 := s2.rel.newM ha2 (o := .ins C dx []) (m := .obj x []) ⟨n, .nil⟩
  refine ⟨.ref a :: ds, _, _, _, fun _ _ _ => False, .cons (.ref a) (rp.mono s2.same), s3.rel.r, g.tabs _ _ _ s3.rel.j, q1 a (s1.rel.mnone ha), fun v d F' M' H' s r ⟨e1, q'⟩ => ?_, fun _ _ _ _ _ _ _ _ _ z => z.elim⟩
  subst e1
  cases r
  exact ⟨rfl, k (.ref a) (.ref a) F' M' H' (((s1.trans s2).trans s3).trans (Stp.of s3.rel s)) (.ref a) q'⟩
end
/-! ### a class's defs as they stand behind the top -/
/-- the method m (its full name qual) of the class under x -/
structure HasM (K : PySem.W.Frag) (x m qual : Str) (st : Stmt) (ps : List Str) : Prop where
  ex : ∃ (C f : Addr) (oc : Value) (od : Option Addr) (kV doc pm : Value) (an : Option Addr) (cdv ct : Value) (osl : Array (Option Value)), PySem.W.nsIn K mainGlobals x = some (some (.ref C)) ∧ L2.Cls K C ∧ Meth K C m f ∧
    K.lookup f = some ⟨oc, od, .func (PySem.W.fnOf m qual (defArgs st) (defBody st) (defScope st) .none kV doc pm an cdv ct), osl⟩ ∧ PySem.W.codeIn K cdv qual = true ∧
      Binds K (PySem.W.fnOf m qual (defArgs st) (defBody st) (defScope st) .none kV doc pm an cdv ct) ps []
theorem dcalM {P : Program} {w : World} {K : PySem.W.Frag} {T : TT8} {mg : Str → Option Value} {base : Heap} {x m qual : Str} {st : Stmt} {N ps : List Str} {k : Nat} {sp : DS1} (h : HasM K x m qual st ps) (S : FnScope N ps (defScope st)) {t : DTS}
    (body : ∀ f, DBody P w K T mg base k N qual st f fun _ => t) (read : ∀ ds M Q, sp ds M Q → ds.length = ps.length ∧ t { nx := fun _ M' => Q .non M', rt := Q } (dstart N ds) M) : CalM P w K T mg base (k + 1) x m sp := by
  obtain ⟨C, f, oc, od, kV, doc, pm, an, cdv, ct, osl, n, c, me, lk, hcd, b⟩ := h.ex
  exact ⟨C, f, _, ps, n, c, me, dgn lk hcd S (body f) fun ds M Q E => read ds M Q, b⟩
/-- the __init__ of the class under x -/
structure HasC (K : PySem.W.Frag) (mg : Str → Option Value) (x qual : Str) (st : Stmt) (ps : List Str) : Prop where
  ex : ∃ (C f : Addr) (oc : Value) (od : Option Addr) (kV doc pm : Value) (an : Option Addr) (cdv ct : Value) (osl : Array (Option Value)), mg x = some (.ref C) ∧ PySem.W.nsIn K mainGlobals x = some (some (.ref C)) ∧ Mk K C f ∧
    K.lookup f = some ⟨oc, od, .func (PySem.W.fnOf "__init__" qual (defArgs st) (defBody st) (defScope st) .none kV doc pm an cdv ct), osl⟩ ∧ PySem.W.codeIn K cdv qual = true ∧
      Binds K (PySem.W.fnOf "__init__" qual (defArgs st) (defBody st) (defScope st) .none kV doc pm an cdv ct) ps []
theorem dcalC {P : Program} {w : World} {K : PySem.W.Frag} {T : TT8} {mg : Str → Option Value} {base : Heap} {x qual : Str} {st : Stmt} {N ps : List Str} {k : Nat} {sp : DS1} (h : HasC K mg x qual st ps) (S : FnScope N ps (defScope st)) {t : DTS}
    (body : ∀ f, DBody P w K T mg base k N qual st f fun _ => t) (read : ∀ ds M Q, sp ds M Q → ds.length = ps.length ∧ t { nx := fun _ M' => Q .non M', rt := Q } (dstart N ds) M) : CalC P w K T mg base (k + 1) x sp := by
  obtain ⟨C, f, oc, od, kV, doc, pm, an, cdv, ct, osl, m, n, mk, lk, hcd, b⟩ := h.ex
  exact ⟨C, f, _, ps, m, n, mk, dgn lk hcd S (body f) fun ds M Q E => read ds M Q, b⟩

/-! ### replace -/
/-- a text of the module's, its token known to be one -/
def GlobT (mg : Str → Option Value) (x : Str) (y : Str) (t : Tok) : Prop := mg x = some (.str y t)
section
variable {X : Cx} {Y : KJ X.K} {pos apos p p1 p2 c c0 c1 q0 : Pos} {o a : Expr} {to ta : DTE} {g1 g2 y z : Str} {u v : Tok} {i : Int} {j j0 j1 : Nat}
def tRepG (y z : Str) (to : TE) : TE := fun σ H Q => to σ H fun v H1 => ∃ x, v = .str x ∧ x.length + (x.length + 1) * z.length ≤ 16777216 ∧ Q (.str (Txt.replace x y z)) H1
theorem pe_repG {to : TE} (ho : PE X o to) (m1 : X.mg g1 = some (.str y u)) (m2 : X.mg g2 = some (.str z v)) (hu : u ≠ 0) (hv : v ≠ 0) (huv : u ≠ v) (hyz : (y == z) = false) (l1 : Gl X g1) (l2 : Gl X g2)
    (hd1 : (g1 == ("__debug__" : Str)) = false := by decide) (hd2 : (g2 == ("__debug__" : Str)) = false := by decide)
    (hst : starEach [.Name g1 p1, .Name g2 p2] X.env = [(false, eval (.Name g1 p1) X.env), (false, eval (.Name g2 p2) X.env)] := by rfl)
    (hbase : attributeBase o "replace" X.env (eval o X.env) = eval o X.env := by rfl) (hline : (apos.endLine == pos.line) = true := by rfl) :
    PE X (.Call (.Attribute o "replace" apos) [.Name g1 p1, .Name g2 p2] [] pos) (tRepG y z to) := by
  refine ⟨fun pins s σ H Q I h => ?_⟩
  refine PySem.Call_method2 hbase hst hline (thn (ho.run pins s σ H _ I h) fun uu s1 ⟨xv, H1, I1, rx, x, ex, hb, q⟩ => ?_)
  subst ex
  obtain ⟨tx, rfl⟩ := rx
  refine ⟨"str", _, F.plainAttrs_str, F.slot_str_replace, F.type_str_replace, typeIs_str _ _ _, (fun _ e => nomatch e), Calls.callWith_builtin rfl (Calls.evalArgs_plain (Calls.spliced_cons ?_))⟩
  refine ld_glob I1 l1 m1 ?_ hd1
  refine Calls.spliced_cons (ld_glob I1 l2 m2 ?_ hd2)
  refine Calls.spliced_nil ?_
  exact PySem.SC.replace hu hv huv hyz hb fun t' k => ⟨.str (Txt.replace x y z), H1, I1.tok k, ⟨t', rfl⟩, q⟩
theorem pe_repC {r : R2} {ta : TE} (hr : IxR X r) (ha : PE X a ta) (hyz : (y == z) = false) (hs : PlainIx (.Constant (.int i) j c) := by intro _ _; rfl)
    (hst : starEach [.Constant (.str y) j0 c0, .Constant (.str z) j1 c1] X.env = [(false, eval (.Constant (.str y) j0 c0) X.env), (false, eval (.Constant (.str z) j1 c1) X.env)] := by rfl)
    (hbase : attributeBase (.Subscript a (.Constant (.int i) j c) q0) "replace" X.env (eval (.Subscript a (.Constant (.int i) j c) q0) X.env) = eval (.Subscript a (.Constant (.int i) j c) q0) X.env := by rfl) (hline : (apos.endLine == pos.line) = true := by rfl) :
    PE X (.Call (.Attribute (.Subscript a (.Constant (.int i) j c) q0) "replace" apos) [.Constant (.str y) j0 c0, .Constant (.str z) j1 c1] [] pos) (tRepG y z (tOp r ta (tC (.int i)))) := by
  refine ⟨fun pins s σ H Q I h => ?_⟩
  refine PySem.Call_method2 hbase hst hline (Subscript_ (thn (ha.run pins s σ H _ I h) fun uu s1 ⟨xv, H1, I1, rx, q1⟩ => wpAny_Constant_int ?_))
  refine wpAny_mono (PySem.wpAny_toks (hr a _ pins { s1 with toks := s1.toks + 1 } σ H1 xv (.int i) uu (.int i s1.toks) _ (I1.tok _) rx ⟨_, rfl⟩ q1 (hs _ _))) (fun vv s2 q => ?_) fun _ _ z => z.2
  obtain ⟨hk, xv2, H2, I2, r2, x, ex, hb, q⟩ := q
  subst ex
  obtain ⟨tx, rfl⟩ := r2
  have hk' : 0 < s2.toks := Nat.lt_of_lt_of_le (Nat.succ_pos s1.toks) hk
  refine ⟨"str", _, F.plainAttrs_str, F.slot_str_replace, F.type_str_replace, typeIs_str _ _ _, (fun _ e => nomatch e), Calls.callWith_builtin rfl (Calls.evalArgs_plain (Calls.spliced_cons (Calls.Constant_str (Calls.spliced_cons (Calls.Constant_str (Calls.spliced_nil ?_))))))⟩
  exact PySem.SC.replace (u := s2.toks) (v := s2.toks + 1) (Nat.ne_of_gt hk') (Nat.succ_ne_zero _) (Nat.ne_of_lt (Nat.lt_succ_self _)) hyz hb fun t' k => ⟨.str (Txt.replace x y z), H2, I2.tok k, ⟨t', rfl⟩, q⟩
end
section
variable {X : Cx} {Y : KJ X.K} {pos apos p1 p2 c c0 c1 q0 : Pos} {o a : Expr} {to ta : DTE} {g1 g2 y z : Str} {i : Int} {j j0 j1 : Nat}
/-- two unlike texts of the module's, each an object of its own -/
def Two (mg : Str → Option Value) (g1 g2 : Str) (y z : Str) : Prop := ∃ u v, mg g1 = some (.str y u) ∧ mg g2 = some (.str z v) ∧ u ≠ 0 ∧ v ≠ 0 ∧ u ≠ v
def dRep (y z : Str) (to : DTE) : DTE := fun ρ M Q => to ρ M fun d M1 => ∃ x, d = .str x ∧ x.length + (x.length + 1) * z.length ≤ 16777216 ∧ Q (.str (Txt.replace x y z)) M1
theorem de_repG (W : Two X.mg g1 g2 y z) (hyz : (y == z) = false) (ho : DE X Y o to) (l1 : Gl X g1 := by rfl) (l2 : Gl X g2 := by rfl)
    (hd1 : (g1 == ("__debug__" : Str)) = false := by decide) (hd2 : (g2 == ("__debug__" : Str)) = false := by decide)
    (hst : starEach [.Name g1 p1, .Name g2 p2] X.env = [(false, eval (.Name g1 p1) X.env), (false, eval (.Name g2 p2) X.env)] := by rfl)
    (hbase : attributeBase o "replace" X.env (eval o X.env) = eval o X.env := by rfl) (hline : (apos.endLine == pos.line) = true := by rfl) :
    DE X Y (.Call (.Attribute o "replace" apos) [.Name g1 p1, .Name g2 p2] [] pos) (dRep y z to) := by
  obtain ⟨u, v, m1, m2, hu, hv, huv⟩ := W
  refine PE.weak (pe_repG ho m1 m2 hu hv huv hyz l1 l2 hd1 hd2 hst hbase hline) ?_
  rintro σ H Q0 ⟨F, M, ρ, Q, rs, rl, q, k⟩
  refine ⟨F, M, ρ, _, rs, rl, q, fun v d F1 M1 H1 s1 rp1 ⟨x, e1, hl, q1⟩ => ?_⟩
  subst e1
  cases rp1
  exact ⟨x, rfl, hl, k _ _ F1 M1 H1 s1 (.str _) q1⟩
theorem can_rep {t : DTE} {σ : St} {H : Hp} {Q0 : VK} (q : canE Y (dRep y z t) σ H Q0) : tRepG y z (canE Y t) σ H Q0 := by
  obtain ⟨F, M, ρ, Q, rs, rl, q, k⟩ := q
  refine ⟨F, M, ρ, _, rs, rl, q, fun v d F1 M1 H1 s1 rp1 ⟨x, e1, hl, q1⟩ => ?_⟩
  subst e1
  cases rp1
  exact ⟨x, rfl, hl, k _ _ F1 M1 H1 s1 (.str _) q1⟩
theorem can_int {σ : St} {H : Hp} {Q0 : VK} (q : canE Y (dC (.int i)) σ H Q0) : Q0 (.int i) H := by
  obtain ⟨F, M, ρ, Q, rs, rl, q, k⟩ := q
  exact k _ _ F M H (Stp.refl rl) (.int i) q
theorem de_repC (ha : DE X Y a ta) (hyz : (y == z) = false) (hs : PlainIx (.Constant (.int i) j c) := by exact fun _ _ => rfl)
    (hst : starEach [.Constant (.str y) j0 c0, .Constant (.str z) j1 c1] X.env = [(false, eval (.Constant (.str y) j0 c0) X.env), (false, eval (.Constant (.str z) j1 c1) X.env)] := by rfl)
    (hbase : attributeBase (.Subscript a (.Constant (.int i) j c) q0) "replace" X.env (eval (.Subscript a (.Constant (.int i) j c) q0) X.env) = eval (.Subscript a (.Constant (.int i) j c) q0) X.env := by rfl) (hline : (apos.endLine == pos.line) = true := by rfl) :
    DE X Y (.Call (.Attribute (.Subscript a (.Constant (.int i) j c) q0) "replace" apos) [.Constant (.str y) j0 c0, .Constant (.str z) j1 c1] [] pos) (dRep y z (dOp rIxD ta (dC (.int i)))) := by
  refine PE.weak (pe_repC (ixd (Y := Y)) ha hyz hs hst hbase hline) ?_
  intro σ H Q0 q
  have q1 := can_op (show canE Y (dOp rIxD ta (dC (.int i))) σ H _ from can_rep q)
  obtain ⟨F, M, ρ, Q, rs, rl, q2, k⟩ := q1
  exact ⟨F, M, ρ, Q, rs, rl, q2, fun v d F' M' H' s r h => can_int (k v d F' M' H' s r h)⟩
end
/-! ### three at once -/
def dPar3 (i j l : Nat) (t : DTA) : DTS := fun D ρ M => t ρ M fun ds M1 => ∃ d e f, ds = [d, e, f] ∧ D.nx (((ρ.set i (some d)).set j (some e)).set l (some f)) M1
theorem ds_par3 {X : Cx} {Y : KJ X.K} {i j l : Nat} {x y z : Str} {a b c : Expr} {t : DTA} {px py pz pt pos : Pos} {kt k2 pt2} (hc : X.calm = true) (hN : X.N.Nodup) (hi : X.N[i]? = some x) (hj : X.N[j]? = some y) (hl : X.N[l]? = some z) (hij : i ≠ j) (hil : i ≠ l) (hjl : j ≠ l)
    (hx : X.env.scope.names.lookup x = some .local) (hy : X.env.scope.names.lookup y = some .local) (hz : X.env.scope.names.lookup z = some .local) (ha : DA X Y [a, b, c] t)
    (hw : swappedStores [.Tuple [.Name x px, .Name y py, .Name z pz] kt pt] (.Tuple [a, b, c] k2 pt2) X.env = pure (some [x, y, z]) := by rfl)
    (hs : swapsWithSole [.Tuple [.Name x px, .Name y py, .Name z pz] kt pt] (.Tuple [a, b, c] k2 pt2) pos.line X.env = pure false := by rfl) :
    DS X Y (.Assign [.Tuple [.Name x px, .Name y py, .Name z pz] kt pt] (.Tuple [a, b, c] k2 pt2) pos) (dPar3 i j l t) := by
  refine PS.weak (ps_par3 hc hN hi hj hl hij hil hjl hx hy hz ha hw hs) ?_
  rintro D0 σ H ⟨F, M, ρ, D, rs, r, q, k⟩
  refine ⟨F, M, ρ, _, rs, r, q, fun vs ds F1 M1 H1 s1 rp ⟨d, e, f, he, q1⟩ => ?_⟩
  subst he
  cases rp with
  | cons r1 rt =>
    cases rt with
    | cons r2 rt2 =>
      cases rt2 with
      | cons r3 rt3 =>
        cases rt3
        exact ⟨_, _, _, rfl, k.nx _ _ F1 M1 H1 s1 ((((rs.mono s1.same).set r1 i).set r2 j).set r3 l) q1⟩
end DL

set_option maxHeartbeats 4000000
/-! K02a: the defs of the text, printed by gen3.py. -/
namespace K02
open PySem PySem.Spec L2 DL
open PyProof.Rows hiding St
/-- the exceptions that are heard -/
def kn (x : Str) : Prop := x = "BadType" ∨ x = "NoTypeText"
def isC (y : Str) (x : Str) : Bool := x == y
structure Exs (P : Program) (w : World) (K : PySem.W.Frag) (mg : Str → Option Value) (base : Heap) : Prop where
  x_BadType : ExC P w K mg base "BadType"
  x_NoTypeText : ExC P w K mg base "NoTypeText"
structure Kns (K : PySem.W.Frag) (mg : Str → Option Value) (CS C_BadType C_NoTypeText : Addr) : Prop where
  mT : mg "TextError" = some (.ref CS)
  m_BadType : mg "BadType" = some (.ref C_BadType)
  m_NoTypeText : mg "NoTypeText" = some (.ref C_NoTypeText)
  known : Known K kn
  sub : ∀ n C, kn n → PySem.W.nsIn K mainGlobals n = some (some (.ref C)) → PySem.W.exmOne K (.ref C) (.ref CS) = some true
  sub_BadType : SubsOf K kn C_BadType (isC "BadType")
  sub_NoTypeText : SubsOf K kn C_NoTypeText (isC "NoTypeText")
def topS (i : Nat) : Stmt := PySem.Challenge.pw_eithermended_k02_types_written_and_read.main.body.getD i (.Pass ⟨0, 0, 0, 0⟩)
def v_AGAIN : DL.D := .str "*"
def v_BAR : DL.D := .str "|"
def v_BLANK : DL.D := .str " "
def v_CAT : DL.D := .str "cat"
def v_FEED : DL.D := .str "\x0a"
def v_LEAVES : DL.D := .tup [(.str "text"), (.str "sign")]
def v_MOST_DEEP : DL.D := .int 30
def v_MOST_LEAF : DL.D := .int 20
def v_MOST_NODES : DL.D := .int 120
def v_OR : DL.D := .str "or"
def v_PAIR : DL.D := .int 2
def v_PAIRS : DL.D := .tup [(.str "cat"), (.str "or")]
def v_QUOTE : DL.D := .str "'"
def v_SIGN : DL.D := .str "sign"
def v_SIGNS : DL.D := .str "\x0a ,-.0123456789:;=abcdefghijklmnopqrstuvwxyz"
def v_STAR : DL.D := .str "star"
def v_TEXT : DL.D := .str "text"
def v_TRIPLE : DL.D := .int 3
def v_WORDS : DL.D := .tup [(.str "text"), (.str "sign"), (.str "cat"), (.str "or"), (.str "star")]
abbrev st__law_heard : Stmt := topS 46
abbrev N__law_heard : List Str := ["call", "caught", "back", "error"]
theorem sc__law_heard : FnScope N__law_heard ["call"] (defScope st__law_heard) := ⟨rfl, rfl, rfl, by decide +kernel, rfl, by decide +kernel, by decide +kernel⟩
theorem give_heard {X : Cx} {CS : Addr} (hm : X.mg "TextError" = some (.ref CS)) (g : Addr) (cdv : Value) (q : Str) : GivesS X N__law_heard "_law_heard" (defScope st__law_heard) g cdv (defBody st__law_heard) "call" q (THeard X.K CS) :=
  heard_gives rfl hm (by decide) rfl rfl rfl (by decide) (fun env h => by cases env; subst h; rfl) (fun env h => by cases env; subst h; rfl) (fun env h => by cases env; subst h; rfl) (fun env h => by cases env; subst h; rfl) (by decide) (by decide) (by decide) (by decide) (by decide) (by decide)
abbrev st_is_tuple : Stmt := topS 3
abbrev N_is_tuple : List Str := ["value", "least", "most"]
theorem sc_is_tuple : FnScope N_is_tuple ["value", "least", "most"] (defScope st_is_tuple) := ⟨rfl, rfl, rfl, by decide +kernel, rfl, by decide +kernel, by decide +kernel⟩
def r_is_tuple : DTS := (dRet (dAndV (dIsi "tuple" (dSlot 0)) (dChain (rInt (fun _ _ => True) fun i j => .bl (decide (i ≤ j))) (rInt (fun _ _ => True) fun i j => .bl (decide (i ≤ j))) (dSlot 1) (dCB rLen (dCons (dSlot 0) dNil)) (dSlot 2))))
abbrev st_is_word : Stmt := topS 4
abbrev N_is_word : List Str := ["value", "words"]
theorem sc_is_word : FnScope N_is_word ["value", "words"] (defScope st_is_word) := ⟨rfl, rfl, rfl, by decide +kernel, rfl, by decide +kernel, by decide +kernel⟩
def r_is_word : DTS := (dRet (dAndV (dIsi "str" (dSlot 0)) (dOp (rInD false) (dSlot 0) (dSlot 1))))
abbrev st_is_text : Stmt := topS 5
abbrev N_is_text : List Str := ["value", "most", "sign"]
theorem sc_is_text : FnScope N_is_text ["value", "most"] (defScope st_is_text) := ⟨rfl, rfl, rfl, by decide +kernel, rfl, by decide +kernel, by decide +kernel⟩
def r_is_text : DTS := (dRet (dAndV (dIsi "str" (dSlot 0)) (dAndV (dOp (rInt (fun _ _ => True) fun i j => .bl (decide (i ≤ j))) (dCB rLen (dCons (dSlot 0) dNil)) (dSlot 1)) (dCB rAllD (dCons (dLc true (dIt (dSlot 0)) (dgName 2) dYes (dOp (rInD false) (dSlot 2) (dC v_SIGNS)) [2]) dNil)))))
abbrev st_is_leaf : Stmt := topS 30
abbrev N_is_leaf : List Str := ["value", "one", "other"]
theorem sc_is_leaf : FnScope N_is_leaf ["value"] (defScope st_is_leaf) := ⟨rfl, rfl, rfl, by decide +kernel, rfl, by decide +kernel, by decide +kernel⟩
def r_is_leaf (sp_is_text : DS1) : DTS := (dSeq (dIfS (dB (dOp (rEqD2 false) (dOp rIxD (dSlot 0) (dC (.int 0))) (dC v_TEXT))) (dRet (dCall1 sp_is_text (dCons (dOp rIxD (dSlot 0) (dC (.int 1))) (dCons (dC v_MOST_LEAF) dNil)))) dNext) (dSeq (dIfS (dOrT (dNotT (dB (dCall1 sp_is_text (dCons (dOp rIxD (dSlot 0) (dC (.int 1))) (dCons (dCB rLen (dCons (dC v_SIGNS) dNil)) dNil))))) (dB (dOp (rEqD2 false) (dOp rIxD (dSlot 0) (dC (.int 1))) (dC (.str ""))))) (dRet (dC (.bl false))) dNext) (dRet (dCB rAllD (dCons (dLc true (dZipS (dOp rIxD (dSlot 0) (dC (.int 1))) (dSl true (dOp rIxD (dSlot 0) (dC (.int 1))) (dPart (dC (.int 1))) dNoPart)) (dgTup 2 (dgCons (dgName 1) (dgCons (dgName 2) dgNil))) dYes (dOp rLtD (dSlot 1) (dSlot 2)) [1, 2]) dNil)))))
abbrev st_is_node : Stmt := topS 31
abbrev N_is_node : List Str := ["value"]
theorem sc_is_node : FnScope N_is_node ["value"] (defScope st_is_node) := ⟨rfl, rfl, rfl, by decide +kernel, rfl, by decide +kernel, by decide +kernel⟩
def r_is_node (sp_is_tuple : DS1) (sp_is_word : DS1) (sp_is_leaf : DS1) : DTS := (dSeq (dIfS (dOrT (dNotT (dB (dCall1 sp_is_tuple (dCons (dSlot 0) (dCons (dC v_PAIR) (dCons (dC v_TRIPLE) dNil)))))) (dNotT (dB (dCall1 sp_is_word (dCons (dOp rIxD (dSlot 0) (dC (.int 0))) (dCons (dC v_WORDS) dNil)))))) (dRet (dC (.bl false))) dNext) (dSeq (dIfS (dB (dOp (rEqD2 true) (dCB rLen (dCons (dSlot 0) dNil)) (dIf (dB (dOp (rInD false) (dOp rIxD (dSlot 0) (dC (.int 0))) (dC v_PAIRS))) (dC v_TRIPLE) (dC v_PAIR)))) (dRet (dC (.bl false))) dNext) (dRet (dOrV (dOp (rInD true) (dOp rIxD (dSlot 0) (dC (.int 0))) (dC v_LEAVES)) (dCall1 sp_is_leaf (dCons (dSlot 0) dNil))))))
abbrev st_parts_of : Stmt := topS 32
abbrev N_parts_of : List Str := ["term"]
theorem sc_parts_of : FnScope N_parts_of ["term"] (defScope st_parts_of) := ⟨rfl, rfl, rfl, by decide +kernel, rfl, by decide +kernel, by decide +kernel⟩
def r_parts_of : DTS := (dRet (dIf (dB (dOp (rInD false) (dOp rIxD (dSlot 0) (dC (.int 0))) (dC v_LEAVES))) (dTup dNil) (dSl true (dSlot 0) (dPart (dC (.int 1))) dNoPart)))
abbrev st_is_type : Stmt := topS 33
abbrev N_is_type : List Str := ["value", "waiting", "nodes", "node", "deep", "part"]
theorem sc_is_type : FnScope N_is_type ["value"] (defScope st_is_type) := ⟨rfl, rfl, rfl, by decide +kernel, rfl, by decide +kernel, by decide +kernel⟩
def r_is_type (sp_is_node : DS1) (sp_parts_of : DS1) : DTS := (dSeq (dPar 1 2 (dCons (dLst false (dCons (dTup (dCons (dSlot 0) (dCons (dC (.int 1)) dNil))) dNil)) (dCons (dC (.int 0)) dNil))) (dSeq (dWhile (dB (dOp (rEqD2 true) (dSlot 1) (dLst true dNil))) (dSeq (dAsg (dPop (dSlot 1)) (dgTup 2 (dgCons (dgName 3) (dgCons (dgName 4) dgNil)))) (dSeq (dAsg (dOp (rAddD true) (dSlot 2) (dC (.int 1))) (dgName 2)) (dSeq (dIfS (dOrT (dB (dOp (rInt (fun _ _ => True) fun i j => .bl (decide (j < i))) (dSlot 2) (dC v_MOST_NODES))) (dOrT (dB (dOp (rInt (fun _ _ => True) fun i j => .bl (decide (j < i))) (dSlot 4) (dC v_MOST_DEEP))) (dNotT (dB (dCall1 sp_is_node (dCons (dSlot 3) dNil)))))) (dRet (dC (.bl false))) dNext) (dDrop (dExtend (dSlot 1) (dLc true (dIt (dCall1 sp_parts_of (dCons (dSlot 3) dNil))) (dgName 5) dYes (dTup (dCons (dSlot 5) (dCons (dOp (rAddD true) (dSlot 4) (dC (.int 1))) dNil))) [5]))))))) (dRet (dC (.bl true)))))
abbrev st_check_type : Stmt := topS 34
abbrev N_check_type : List Str := ["value"]
theorem sc_check_type : FnScope N_check_type ["value"] (defScope st_check_type) := ⟨rfl, rfl, rfl, by decide +kernel, rfl, by decide +kernel, by decide +kernel⟩
def r_check_type (E1 : DXK) (sp_is_type : DS1) : DTS := (dIfS (dNotT (dB (dCall1 sp_is_type (dCons (dSlot 0) dNil)))) (dRaise "BadType" (dSlot 0) E1) dNext)
abbrev st_signs_shown : Stmt := topS 35
abbrev N_signs_shown : List Str := ["text"]
theorem sc_signs_shown : FnScope N_signs_shown ["text"] (defScope st_signs_shown) := ⟨rfl, rfl, rfl, by decide +kernel, rfl, by decide +kernel, by decide +kernel⟩
def r_signs_shown : DTS := (dRet (dRep "\x0a" "/" (dSlot 0)))
abbrev st_shown : Stmt := topS 36
abbrev N_shown : List Str := ["term", "word"]
theorem sc_shown : FnScope N_shown ["term"] (defScope st_shown) := ⟨rfl, rfl, rfl, by decide +kernel, rfl, by decide +kernel, by decide +kernel⟩
def r_shown (sp_signs_shown : DS1) (sp_shown : DS1) : DTS := (dSeq (dAsg (dOp rIxD (dSlot 0) (dC (.int 0))) (dgName 1)) (dSeq (dIfS (dB (dOp (rEqD2 false) (dSlot 1) (dC v_TEXT))) (dRet (dOp (rAddD true) (dOp (rAddD true) (dC v_QUOTE) (dCall1 sp_signs_shown (dCons (dOp rIxD (dSlot 0) (dC (.int 1))) dNil))) (dC v_QUOTE))) dNext) (dSeq (dIfS (dB (dOp (rEqD2 false) (dSlot 1) (dC v_SIGN))) (dRet (dOp (rAddD true) (dOp (rAddD true) (dC (.str "[")) (dCall1 sp_signs_shown (dCons (dOp rIxD (dSlot 0) (dC (.int 1))) dNil))) (dC (.str "]")))) dNext) (dSeq (dIfS (dB (dOp (rEqD2 false) (dSlot 1) (dC v_STAR))) (dRet (dOp (rAddD true) (dCall1 sp_shown (dCons (dOp rIxD (dSlot 0) (dC (.int 1))) dNil)) (dC v_AGAIN))) dNext) (dRet (dOp (rAddD true) (dOp (rAddD true) (dOp (rAddD true) (dOp (rAddD true) (dC (.str "(")) (dCall1 sp_shown (dCons (dOp rIxD (dSlot 0) (dC (.int 1))) dNil))) (dIf (dB (dOp (rEqD2 false) (dSlot 1) (dC v_CAT))) (dC v_BLANK) (dC v_BAR))) (dCall1 sp_shown (dCons (dOp rIxD (dSlot 0) (dC v_PAIR)) dNil))) (dC (.str ")"))))))))
abbrev st_type_text : Stmt := topS 37
abbrev N_type_text : List Str := ["term"]
theorem sc_type_text : FnScope N_type_text ["term"] (defScope st_type_text) := ⟨rfl, rfl, rfl, by decide +kernel, rfl, by decide +kernel, by decide +kernel⟩
def r_type_text (E1 : DXK) (sp_check_type : DSp) (sp_shown : DS1) : DTS := (dSeq (dDrop (dCallE sp_check_type (dCons (dSlot 0) dNil) E1)) (dRet (dCall1 sp_shown (dCons (dSlot 0) dNil))))
abbrev st_TypeText_init : Stmt := methS (topS 38) 0
abbrev N_TypeText_init : List Str := ["self", "text"]
theorem sc_TypeText_init : FnScope N_TypeText_init ["self", "text"] (defScope st_TypeText_init) := ⟨rfl, rfl, rfl, by decide +kernel, rfl, by decide +kernel, by decide +kernel⟩
def r_TypeText_init : DTS := (dSeq (dSetF "TypeText" "text" (dSlot 0) (dSlot 1)) (dSeq (dSetF "TypeText" "at" (dSlot 0) (dC (.int 0))) (dSetF "TypeText" "deep" (dSlot 0) (dC (.int 0)))))
abbrev st_TypeText_is_next : Stmt := methS (topS 38) 1
abbrev N_TypeText_is_next : List Str := ["self", "sign", "is_there"]
theorem sc_TypeText_is_next : FnScope N_TypeText_is_next ["self", "sign"] (defScope st_TypeText_is_next) := ⟨rfl, rfl, rfl, by decide +kernel, rfl, by decide +kernel, by decide +kernel⟩
def r_TypeText_is_next : DTS := (dSeq (dAsg (dOp (rEqD2 false) (dSl true (dFld "TypeText" "text" (dSlot 0)) (dPart (dFld "TypeText" "at" (dSlot 0))) (dPart (dOp (rAddD true) (dFld "TypeText" "at" (dSlot 0)) (dC (.int 1))))) (dSlot 1)) (dgName 2)) (dSeq (dSetF "TypeText" "at" (dSlot 0) (dOp (rAddD true) (dFld "TypeText" "at" (dSlot 0)) (dCB rIntD (dCons (dSlot 2) dNil)))) (dRet (dSlot 2))))
abbrev st_TypeText_row_to : Stmt := methS (topS 38) 2
abbrev N_TypeText_row_to : List Str := ["self", "sign", "begin", "row"]
theorem sc_TypeText_row_to : FnScope N_TypeText_row_to ["self", "sign"] (defScope st_TypeText_row_to) := ⟨rfl, rfl, rfl, by decide +kernel, rfl, by decide +kernel, by decide +kernel⟩
def r_TypeText_row_to (sp_TypeText_is_next : DS1) : DTS := (dSeq (dAsg (dFld "TypeText" "at" (dSlot 0)) (dgName 2)) (dSeq (dWhile (dAndT (dB (dOp rLtD (dFld "TypeText" "at" (dSlot 0)) (dCB rLen (dCons (dFld "TypeText" "text" (dSlot 0)) dNil)))) (dB (dOp (rEqD2 true) (dOp rIxD (dFld "TypeText" "text" (dSlot 0)) (dFld "TypeText" "at" (dSlot 0))) (dSlot 1)))) (dSetF "TypeText" "at" (dSlot 0) (dOp (rAddD true) (dFld "TypeText" "at" (dSlot 0)) (dC (.int 1))))) (dSeq (dAsg (dRep "/" "\x0a" (dSl true (dFld "TypeText" "text" (dSlot 0)) (dPart (dSlot 2)) (dPart (dFld "TypeText" "at" (dSlot 0))))) (dgName 3)) (dSeq (dIfS (dOrT (dNotT (dB (dMeth "TypeText" "is_next" sp_TypeText_is_next (dSlot 0) (dCons (dSlot 1) dNil)))) (dB (dOp (rInD false) (dC v_FEED) (dSl true (dFld "TypeText" "text" (dSlot 0)) (dPart (dSlot 2)) (dPart (dFld "TypeText" "at" (dSlot 0))))))) (dRet (dC .non)) dNext) (dRet (dSlot 3))))))
abbrev st_TypeText_leaf : Stmt := methS (topS 38) 3
abbrev N_TypeText_leaf : List Str := ["self", "word", "sign", "row"]
theorem sc_TypeText_leaf : FnScope N_TypeText_leaf ["self", "word", "sign"] (defScope st_TypeText_leaf) := ⟨rfl, rfl, rfl, by decide +kernel, rfl, by decide +kernel, by decide +kernel⟩
def r_TypeText_leaf (sp_TypeText_row_to : DS1) (sp_is_leaf : DS1) : DTS := (dSeq (dAsg (dMeth "TypeText" "row_to" sp_TypeText_row_to (dSlot 0) (dCons (dSlot 2) dNil)) (dgName 3)) (dRet (dIf (dOrT (dB (dOp (rIsN false) (dSlot 3) (dC .non))) (dNotT (dB (dCall1 sp_is_leaf (dCons (dTup (dCons (dSlot 1) (dCons (dSlot 3) dNil))) dNil))))) (dC .non) (dTup (dCons (dSlot 1) (dCons (dSlot 3) dNil))))))
abbrev st_TypeText_couple : Stmt := methS (topS 38) 4
abbrev N_TypeText_couple : List Str := ["self", "one", "word", "other"]
theorem sc_TypeText_couple : FnScope N_TypeText_couple ["self"] (defScope st_TypeText_couple) := ⟨rfl, rfl, rfl, by decide +kernel, rfl, by decide +kernel, by decide +kernel⟩
def r_TypeText_couple (sp_TypeText_node : DS1) (sp_TypeText_is_next : DS1) : DTS := (dSeq (dAsg (dMeth "TypeText" "node" sp_TypeText_node (dSlot 0) dNil) (dgName 1)) (dSeq (dAsg (dIf (dB (dMeth "TypeText" "is_next" sp_TypeText_is_next (dSlot 0) (dCons (dC v_BLANK) dNil))) (dC v_CAT) (dIf (dB (dMeth "TypeText" "is_next" sp_TypeText_is_next (dSlot 0) (dCons (dC v_BAR) dNil))) (dC v_OR) (dC (.str "")))) (dgName 2)) (dSeq (dAsg (dIf (dAndT (dB (dOp (rIsN true) (dSlot 1) (dC .non))) (dB (dOp (rEqD2 true) (dSlot 2) (dC (.str ""))))) (dMeth "TypeText" "node" sp_TypeText_node (dSlot 0) dNil) (dC .non)) (dgName 3)) (dRet (dIf (dAndT (dB (dOp (rIsN true) (dSlot 3) (dC .non))) (dB (dMeth "TypeText" "is_next" sp_TypeText_is_next (dSlot 0) (dCons (dC (.str ")")) dNil)))) (dTup (dCons (dSlot 2) (dCons (dSlot 1) (dCons (dSlot 3) dNil)))) (dC .non))))))
abbrev st_TypeText_node : Stmt := methS (topS 38) 5
abbrev N_TypeText_node : List Str := ["self", "stars", "found"]
theorem sc_TypeText_node : FnScope N_TypeText_node ["self"] (defScope st_TypeText_node) := ⟨rfl, rfl, rfl, by decide +kernel, rfl, by decide +kernel, by decide +kernel⟩
def r_TypeText_node (sp_TypeText_is_next : DS1) (sp_TypeText_leaf : DS1) (sp_TypeText_couple : DS1) : DTS := (dSeq (dSetF "TypeText" "deep" (dSlot 0) (dOp (rAddD true) (dFld "TypeText" "deep" (dSlot 0)) (dC (.int 1)))) (dSeq (dIfS (dB (dOp (rInt (fun _ _ => True) fun i j => .bl (decide (j < i))) (dFld "TypeText" "deep" (dSlot 0)) (dC v_MOST_DEEP))) (dRet (dC .non)) dNext) (dSeq (dIfS (dB (dMeth "TypeText" "is_next" sp_TypeText_is_next (dSlot 0) (dCons (dC v_QUOTE) dNil))) (dAsg (dMeth "TypeText" "leaf" sp_TypeText_leaf (dSlot 0) (dCons (dC v_TEXT) (dCons (dC v_QUOTE) dNil))) (dgName 2)) (dIfS (dB (dMeth "TypeText" "is_next" sp_TypeText_is_next (dSlot 0) (dCons (dC (.str "[")) dNil))) (dAsg (dMeth "TypeText" "leaf" sp_TypeText_leaf (dSlot 0) (dCons (dC v_SIGN) (dCons (dC (.str "]")) dNil))) (dgName 2)) (dAsg (dIf (dB (dMeth "TypeText" "is_next" sp_TypeText_is_next (dSlot 0) (dCons (dC (.str "(")) dNil))) (dMeth "TypeText" "couple" sp_TypeText_couple (dSlot 0) dNil) (dC .non)) (dgName 2)))) (dSeq (dSetF "TypeText" "deep" (dSlot 0) (dOp (rInt (fun _ _ => True) fun i j => .int (i - j)) (dFld "TypeText" "deep" (dSlot 0)) (dC (.int 1)))) (dSeq (dAsg (dC (.int 0)) (dgName 1)) (dSeq (dWhile (dAndT (dB (dOp (rIsN true) (dSlot 2) (dC .non))) (dB (dMeth "TypeText" "is_next" sp_TypeText_is_next (dSlot 0) (dCons (dC v_AGAIN) dNil)))) (dSeq (dAsg (dOp (rAddD true) (dSlot 1) (dC (.int 1))) (dgName 1)) (dAsg (dIf (dB (dOp rLtD (dSlot 1) (dC v_MOST_DEEP))) (dTup (dCons (dC v_STAR) (dCons (dSlot 2) dNil))) (dC .non)) (dgName 2)))) (dRet (dSlot 2))))))))
abbrev st_read_type : Stmt := topS 39
abbrev N_read_type : List Str := ["text", "reader", "found"]
theorem sc_read_type : FnScope N_read_type ["text"] (defScope st_read_type) := ⟨rfl, rfl, rfl, by decide +kernel, rfl, by decide +kernel, by decide +kernel⟩
def r_read_type (E1 : DXK) (sp_TypeText_init : DS1) (sp_TypeText_node : DS1) (sp_is_type : DS1) : DTS := (dSeq (dIfS (dNotT (dB (dIsi "str" (dSlot 0)))) (dRaise "NoTypeText" (dSlot 0) E1) dNext) (dSeq (dAsg (dMake "TypeText" sp_TypeText_init (dCons (dSlot 0) dNil)) (dgName 1)) (dSeq (dAsg (dMeth "TypeText" "node" sp_TypeText_node (dSlot 1) dNil) (dgName 2)) (dSeq (dIfS (dOrT (dB (dOp (rIsN false) (dSlot 2) (dC .non))) (dOrT (dB (dOp (rEqD2 true) (dFld "TypeText" "at" (dSlot 1)) (dCB rLen (dCons (dSlot 0) dNil)))) (dNotT (dB (dCall1 sp_is_type (dCons (dSlot 2) dNil)))))) (dRaise "NoTypeText" (dSlot 0) E1) dNext) (dRet (dSlot 2))))))
abbrev st__law_pot : Stmt := topS 41
abbrev N__law_pot : List Str := ["script", "place", "cell", "own", "small"]
theorem sc__law_pot : FnScope N__law_pot ["script", "place"] (defScope st__law_pot) := ⟨rfl, rfl, rfl, by decide +kernel, rfl, by decide +kernel, by decide +kernel⟩
def r__law_pot : DTS := (dSeq (dAsg (dIf (dB (dOp rLtD (dSlot 1) (dCB rLen (dCons (dSlot 0) dNil)))) (dOp rIxD (dSlot 0) (dSlot 1)) (dOp (rAddD true) (dOp (rAddD true) (dOp (rInt (fun _ j => 0 < j) fun i j => .int (i % j)) (dCB rSumD (dCons (dSl true (dSlot 0) dNoPart (dPart (dC (.int 1)))) dNil)) (dC (.int 1000003))) (dOp (rMulD true) (dC (.int 7075)) (dSlot 1))) (dC (.int 3117)))) (dgName 2)) (dSeq (dAsg (dOp (rMulD true) (dOp (rInt (fun _ j => 0 < j) fun i j => .int (i % j)) (dCB rIntD (dCons (dCB rAbsD (dCons (dSlot 2) dNil)) dNil)) (dOp rPowD (dOp rPowD (dC (.int 10)) (dC (.int 60))) (dC (.int 5)))) (dCB rIntD (dCons (dOp (rInt (fun _ _ => True) fun i j => .bl (decide (j ≤ i))) (dCB rAbsD (dCons (dSlot 2) dNil)) (dOp rPowD (dC (.int 10)) (dC (.int 18)))) dNil))) (dgName 3)) (dSeq (dAsg (dOp (rInt (fun _ j => 0 < j) fun i j => .int (i % j)) (dCB rIntD (dCons (dSlot 2) dNil)) (dC (.int 2305843009213693951))) (dgName 4)) (dRet (dLst false (dCons (dSlot 3) (dCons (dOp (rInt (fun _ j => 0 < j) fun i j => .int (i % j)) (dCB rIntD (dCons (dOp (rAddD true) (dOp (rAddD true) (dOp (rMulD true) (dSlot 4) (dC (.int 77547))) (dOp (rMulD true) (dOp (rMulD true) (dC (.int 8663)) (dSlot 1)) (dSlot 1))) (dC (.int 115))) dNil)) (dC (.int 2305843009213693921))) (dCons (dC (.int 0)) dNil))))))))
abbrev st__law_take : Stmt := topS 42
abbrev N__law_take : List Str := ["pot", "upto", "prime", "blend", "digit"]
theorem sc__law_take : FnScope N__law_take ["pot", "upto"] (defScope st__law_take) := ⟨rfl, rfl, rfl, by decide +kernel, rfl, by decide +kernel, by decide +kernel⟩
def r__law_take : DTS := (dSeq (dIfS (dB (dOp (rInt (fun _ _ => True) fun i j => .bl (decide (j < i))) (dOp rIxD (dSlot 0) (dC (.int 0))) (dC (.int 0)))) (dSeq (dAsg (dOp (rInt (fun _ j => 0 < j) fun i j => .int (i % j)) (dCB rIntD (dCons (dOp rIxD (dSlot 0) (dC (.int 0))) dNil)) (dSlot 1)) (dgName 4)) (dSeq (dAsg (dOp (rInt (fun _ j => 0 < j ∧ j.natAbs < 2 ^ 64) fun i j => .int (i / j)) (dOp rIxD (dSlot 0) (dC (.int 0))) (dSlot 1)) (dgSub (dSlot 0) (dC (.int 0)) rSetD)) (dRet (dSlot 4)))) dNext) (dSeq (dAsg (dOp (rAddD true) (dOp rIxD (dSlot 0) (dC (.int 2))) (dC (.int 1))) (dgSub (dSlot 0) (dC (.int 2)) rSetD)) (dSeq (dAsg (dOp rIxD (dLst true (dCons (dC (.int 2147483647)) (dCons (dC (.int 2147483629)) (dCons (dC (.int 2147483587)) (dCons (dC (.int 2147483579)) (dCons (dC (.int 2147483563)) dNil)))))) (dOp (rInt (fun _ j => 0 < j) fun i j => .int (i % j)) (dCB rIntD (dCons (dOp rIxD (dSlot 0) (dC (.int 2))) dNil)) (dC (.int 5)))) (dgName 2)) (dSeq (dAsg (dOp (rInt (fun _ j => 0 < j) fun i j => .int (i % j)) (dCB rIntD (dCons (dOp rPowD (dCB rIntD (dCons (dOp (rAddD true) (dOp (rAddD true) (dOp rIxD (dSlot 0) (dC (.int 1))) (dOp (rMulD true) (dOp (rMulD true) (dC (.int 98275)) (dOp rIxD (dSlot 0) (dC (.int 2)))) (dOp rIxD (dSlot 0) (dC (.int 2))))) (dC (.int 53))) dNil)) (dC (.int 3))) dNil)) (dSlot 2)) (dgName 3)) (dSeq (dAsg (dOp (rInt (fun _ j => 0 < j) fun i j => .int (i % j)) (dCB rIntD (dCons (dOp (rMulD true) (dSlot 3) (dOp (rAddD true) (dOp (rInt (fun _ j => 0 < j) fun i j => .int (i % j)) (dCB rIntD (dCons (dSlot 3) dNil)) (dC (.int 10011))) (dOp (rMulD true) (dC (.int 105)) (dOp rIxD (dSlot 0) (dC (.int 2)))))) dNil)) (dC (.int 2305843009213693907))) (dgName 3)) (dRet (dOp (rInt (fun _ j => 0 < j) fun i j => .int (i % j)) (dCB rIntD (dCons (dOp (rInt (fun _ j => 0 < j ∧ j.natAbs < 2 ^ 64) fun i j => .int (i / j)) (dSlot 3) (dC (.int 131))) dNil)) (dSlot 1))))))))
abbrev st__law_of : Stmt := topS 43
abbrev N__law_of : List Str := ["pot", "some"]
theorem sc__law_of : FnScope N__law_of ["pot", "some"] (defScope st__law_of) := ⟨rfl, rfl, rfl, by decide +kernel, rfl, by decide +kernel, by decide +kernel⟩
def r__law_of (sp__law_take : DS1) : DTS := (dRet (dOp rIxD (dSlot 1) (dCall1 sp__law_take (dCons (dSlot 0) (dCons (dCB rLen (dCons (dSlot 1) dNil)) dNil)))))
abbrev st__law_cells : Stmt := topS 44
abbrev N__law_cells : List Str := ["script", "limit"]
theorem sc__law_cells : FnScope N__law_cells ["script", "limit"] (defScope st__law_cells) := ⟨rfl, rfl, rfl, by decide +kernel, rfl, by decide +kernel, by decide +kernel⟩
def r__law_cells : DTS := (dRet (dListRg true (dCB rMax2D (dCons (dC (.int 1)) (dCons (dCB rMin2D (dCons (dSlot 1) (dCons (dCB rLen (dCons (dSlot 0) dNil)) dNil))) dNil)))))
abbrev st__law_some : Stmt := topS 45
abbrev N__law_some : List Str := ["pot", "pool", "many", "lap", "rests", "found"]
theorem sc__law_some : FnScope N__law_some ["pot", "pool", "many"] (defScope st__law_some) := ⟨rfl, rfl, rfl, by decide +kernel, rfl, by decide +kernel, by decide +kernel⟩
def r__law_some (sp__law_take : DS1) : DTS := (dSeq (dPar 4 5 (dCons (dCB (rListD false) (dCons (dSlot 1) dNil)) (dCons (dLst false dNil) dNil))) (dSeq (dFor (dRange1 (dSlot 2)) (dgName 3) (dDrop (dAppend (dSlot 5) (dPopAt (dSlot 4) (dCall1 sp__law_take (dCons (dSlot 0) (dCons (dCB rLen (dCons (dSlot 4) dNil)) dNil))))))) (dRet (dHold (dSlot 5)))))
abbrev st__law_signs : Stmt := topS 47
abbrev N__law_signs : List Str := []
theorem sc__law_signs : FnScope N__law_signs [] (defScope st__law_signs) := ⟨rfl, rfl, rfl, by decide +kernel, rfl, by decide +kernel, by decide +kernel⟩
def r__law_signs : DTS := (dRet (dC (.str "\x0a ,-.0123456789:;=abcdefghijklmnopqrstuvwxyz")))
abbrev st__law_few : Stmt := topS 48
abbrev N__law_few : List Str := ["pot"]
theorem sc__law_few : FnScope N__law_few ["pot"] (defScope st__law_few) := ⟨rfl, rfl, rfl, by decide +kernel, rfl, by decide +kernel, by decide +kernel⟩
def r__law_few (sp__law_some : DS1) (sp__law_of : DS1) (sp__law_signs : DS1) : DTS := (dRet (dJoin (dC (.str "")) (dCB (rSortD true) (dCons (dCall1 sp__law_some (dCons (dSlot 0) (dCons (dCB (rListS true) (dCons (dCall1 sp__law_signs dNil) dNil)) (dCons (dCall1 sp__law_of (dCons (dSlot 0) (dCons (dLst true (dCons (dC (.int 2)) (dCons (dC (.int 2)) (dCons (dC (.int 3)) dNil)))) dNil))) dNil)))) dNil))))
abbrev st__law_leaf : Stmt := topS 49
abbrev N__law_leaf : List Str := ["pot", "signs", "lap"]
theorem sc__law_leaf : FnScope N__law_leaf ["pot", "signs"] (defScope st__law_leaf) := ⟨rfl, rfl, rfl, by decide +kernel, rfl, by decide +kernel, by decide +kernel⟩
def r__law_leaf (sp__law_take : DS1) (sp__law_of : DS1) : DTS := (dSeq (dIfS (dB (dOp (rEqD2 false) (dCall1 sp__law_take (dCons (dSlot 0) (dCons (dC (.int 3)) dNil))) (dC (.int 0)))) (dRet (dTup (dCons (dC (.str "sign")) (dCons (dJoin (dC (.str "")) (dSortSet true (dLc true (dRange1 (dOp (rAddD true) (dC (.int 1)) (dCall1 sp__law_take (dCons (dSlot 0) (dCons (dC (.int 3)) dNil))))) (dgName 2) dYes (dCall1 sp__law_of (dCons (dSlot 0) (dCons (dSlot 1) dNil))) [2]))) dNil)))) dNext) (dRet (dTup (dCons (dC (.str "text")) (dCons (dJoin (dC (.str "")) (dLc true (dRange1 (dCall1 sp__law_of (dCons (dSlot 0) (dCons (dLst true (dCons (dC (.int 0)) (dCons (dC (.int 1)) (dCons (dC (.int 1)) (dCons (dC (.int 1)) (dCons (dC (.int 2)) (dCons (dC (.int 3)) dNil))))))) dNil)))) (dgName 2) dYes (dCall1 sp__law_of (dCons (dSlot 0) (dCons (dSlot 1) dNil))) [2])) dNil)))))
abbrev st__law_type_drawn : Stmt := topS 50
abbrev N__law_type_drawn : List Str := ["pot", "signs", "deep", "way"]
theorem sc__law_type_drawn : FnScope N__law_type_drawn ["pot", "signs", "deep"] (defScope st__law_type_drawn) := ⟨rfl, rfl, rfl, by decide +kernel, rfl, by decide +kernel, by decide +kernel⟩
def r__law_type_drawn (sp__law_take : DS1) (sp__law_leaf : DS1) (sp__law_type_drawn : DS1) : DTS := (dSeq (dAsg (dCall1 sp__law_take (dCons (dSlot 0) (dCons (dC (.int 7)) dNil))) (dgName 3)) (dSeq (dIfS (dOrT (dB (dOp (rEqD2 false) (dSlot 2) (dC (.int 1)))) (dB (dOp rLtD (dSlot 3) (dC (.int 2))))) (dRet (dCall1 sp__law_leaf (dCons (dSlot 0) (dCons (dSlot 1) dNil)))) dNext) (dSeq (dIfS (dB (dOp (rEqD2 false) (dSlot 3) (dC (.int 2)))) (dRet (dTup (dCons (dC (.str "star")) (dCons (dCall1 sp__law_type_drawn (dCons (dSlot 0) (dCons (dSlot 1) (dCons (dOp (rInt (fun _ _ => True) fun i j => .int (i - j)) (dSlot 2) (dC (.int 1))) dNil)))) dNil)))) dNext) (dRet (dTup (dCons (dOp rIxD (dLst true (dCons (dC (.str "cat")) (dCons (dC (.str "or")) dNil))) (dOp (rInt (fun _ j => 0 < j) fun i j => .int (i % j)) (dSlot 3) (dC (.int 2)))) (dCons (dCall1 sp__law_type_drawn (dCons (dSlot 0) (dCons (dSlot 1) (dCons (dOp (rInt (fun _ _ => True) fun i j => .int (i - j)) (dSlot 2) (dC (.int 1))) dNil)))) (dCons (dCall1 sp__law_type_drawn (dCons (dSlot 0) (dCons (dSlot 1) (dCons (dOp (rInt (fun _ _ => True) fun i j => .int (i - j)) (dSlot 2) (dC (.int 1))) dNil)))) dNil))))))))
abbrev st__law_shown : Stmt := topS 51
abbrev N__law_shown : List Str := ["term", "word", "text"]
theorem sc__law_shown : FnScope N__law_shown ["term"] (defScope st__law_shown) := ⟨rfl, rfl, rfl, by decide +kernel, rfl, by decide +kernel, by decide +kernel⟩
def r__law_shown (sp__law_shown : DS1) : DTS := (dSeq (dAsg (dOp rIxD (dSlot 0) (dC (.int 0))) (dgName 1)) (dSeq (dIfS (dB (dOp (rInD false) (dSlot 1) (dTup (dCons (dC (.str "text")) (dCons (dC (.str "sign")) dNil))))) (dSeq (dAsg (dRep "\x0a" "/" (dOp rIxD (dSlot 0) (dC (.int 1)))) (dgName 2)) (dRet (dIf (dB (dOp (rEqD2 false) (dSlot 1) (dC (.str "text")))) (dOp (rAddD true) (dOp (rAddD true) (dC (.str "'")) (dSlot 2)) (dC (.str "'"))) (dOp (rAddD true) (dOp (rAddD true) (dC (.str "[")) (dSlot 2)) (dC (.str "]")))))) dNext) (dSeq (dIfS (dB (dOp (rEqD2 false) (dSlot 1) (dC (.str "star")))) (dRet (dOp (rAddD true) (dCall1 sp__law_shown (dCons (dOp rIxD (dSlot 0) (dC (.int 1))) dNil)) (dC (.str "*")))) dNext) (dRet (dOp (rAddD true) (dOp (rAddD true) (dOp (rAddD true) (dOp (rAddD true) (dC (.str "(")) (dCall1 sp__law_shown (dCons (dOp rIxD (dSlot 0) (dC (.int 1))) dNil))) (dIf (dB (dOp (rEqD2 false) (dSlot 1) (dC (.str "cat")))) (dC (.str " ")) (dC (.str "|")))) (dCall1 sp__law_shown (dCons (dOp rIxD (dSlot 0) (dC (.int 2))) dNil))) (dC (.str ")")))))))
abbrev st__law_is_read : Stmt := topS 52
abbrev N__law_is_read : List Str := ["text", "caught", "back"]
theorem sc__law_is_read : FnScope N__law_is_read ["text"] (defScope st__law_is_read) := ⟨rfl, rfl, rfl, by decide +kernel, rfl, by decide +kernel, by decide +kernel⟩
def r__law_is_read (sp_read_type : DSp) (sp__law_shown : DS1) (sp_is_type : DS1) : DTS := (dSeq (dAsg (dHeard kn fun E1 => (dCallE sp_read_type (dCons (dSlot 0) dNil) E1)) (dgTup 2 (dgCons (dgName 1) (dgCons (dgName 2) dgNil)))) (dSeq (dIfS (dB (dOp (rIsN true) (dSlot 1) (dC .non))) (dRet (dAndV (dIsE kn (isC "NoTypeText") (dSlot 1)) (dOp (rEqD2 false) (dCB rReprD (dCons (dExcV kn (dSlot 1)) dNil)) (dCB rReprD (dCons (dSlot 0) dNil))))) dNext) (dRet (dAndV (dCall1 sp_is_type (dCons (dSlot 2) dNil)) (dOp (rEqD2 false) (dCall1 sp__law_shown (dCons (dSlot 2) dNil)) (dSlot 0))))))
abbrev st__law_otherwise : Stmt := topS 53
abbrev N__law_otherwise : List Str := ["pot", "text", "at", "sign", "way"]
theorem sc__law_otherwise : FnScope N__law_otherwise ["pot", "text"] (defScope st__law_otherwise) := ⟨rfl, rfl, rfl, by decide +kernel, rfl, by decide +kernel, by decide +kernel⟩
def r__law_otherwise (sp__law_take : DS1) (sp__law_of : DS1) : DTS := (dSeq (dPar3 2 3 4 (dCons (dCall1 sp__law_take (dCons (dSlot 0) (dCons (dOp (rAddD true) (dCB rLen (dCons (dSlot 1) dNil)) (dC (.int 1))) dNil))) (dCons (dCall1 sp__law_of (dCons (dSlot 0) (dCons (dC (.str "()|*[]'/ ab,\x0aA")) dNil))) (dCons (dCall1 sp__law_take (dCons (dSlot 0) (dCons (dC (.int 4)) dNil))) dNil)))) (dSeq (dIfS (dB (dOp (rEqD2 false) (dSlot 4) (dC (.int 0)))) (dRet (dOp (rAddD true) (dSl true (dSlot 1) dNoPart (dPart (dSlot 2))) (dSl true (dSlot 1) (dPart (dOp (rAddD true) (dSlot 2) (dC (.int 1)))) dNoPart))) dNext) (dSeq (dIfS (dB (dOp (rEqD2 false) (dSlot 4) (dC (.int 1)))) (dRet (dOp (rAddD true) (dOp (rAddD true) (dSl true (dSlot 1) dNoPart (dPart (dSlot 2))) (dSlot 3)) (dSl true (dSlot 1) (dPart (dSlot 2)) dNoPart))) dNext) (dSeq (dIfS (dB (dOp (rEqD2 false) (dSlot 4) (dC (.int 2)))) (dRet (dOp (rAddD true) (dOp (rAddD true) (dSl true (dSlot 1) dNoPart (dPart (dSlot 2))) (dSlot 3)) (dSl true (dSlot 1) (dPart (dOp (rAddD true) (dSlot 2) (dC (.int 1)))) dNoPart))) dNext) (dRet (dOp (rAddD true) (dOp (rAddD true) (dSl true (dSlot 1) dNoPart (dPart (dSlot 2))) (dRevS true (dSl true (dSlot 1) (dPart (dSlot 2)) (dPart (dOp (rAddD true) (dSlot 2) (dC (.int 2))))))) (dSl true (dSlot 1) (dPart (dOp (rAddD true) (dSlot 2) (dC (.int 2)))) dNoPart)))))))
abbrev st__law_hand : Stmt := topS 54
abbrev N__law_hand : List Str := ["some"]
theorem sc__law_hand : FnScope N__law_hand [] (defScope st__law_hand) := ⟨rfl, rfl, rfl, by decide +kernel, rfl, by decide +kernel, by decide +kernel⟩
def r__law_hand : DTS := (dSeq (dAsg (dLst true (dCons (dC (.str "")) (dCons (dC (.str "'")) (dCons (dC (.str "a")) (dCons (dC (.str "[]")) (dCons (dC (.str "[ba]")) (dCons (dC (.str "[aa]")) (dCons (dC (.str "('a')")) (dCons (dC (.str "('a' 'b' 'c')")) (dCons (dC (.str "('a'  'b')")) (dCons (dC (.str "('a'|'b'")) (dCons (dC (.str "*")) (dCons (dC (.str "'a'**'b'")) dNil))))))))))))) (dgName 0)) (dSeq (dAsg (dOp (rAddD true) (dSlot 0) (dLst true (dCons (dC (.str "(|)")) (dCons (dC (.str "'\x0a'")) (dCons (dOp (rAddD true) (dOp (rAddD true) (dC (.str "'")) (dOp (rMulD true) (dC (.str "a")) (dC (.int 21)))) (dC (.str "'"))) (dCons (dC (.str "[A]")) (dCons (dC (.str "'A'")) (dCons (dOp (rAddD true) (dC (.str "''")) (dOp (rMulD true) (dC (.str "*")) (dC (.int 30)))) (dCons (dOp (rMulD true) (dC (.str "(")) (dC (.int 40))) (dCons (dC (.str " 'a'")) (dCons (dC (.str "'a' ")) dNil))))))))))) (dgName 0)) (dRet (dOp (rAddD true) (dSlot 0) (dLst true (dCons (dC (.str "('a' 'b')*|")) (dCons (dC (.str "/")) dNil)))))))
abbrev st__law_right : Stmt := topS 55
abbrev N__law_right : List Str := ["pot", "term", "text", "lap", "odd", "caught", "other"]
theorem sc__law_right : FnScope N__law_right ["pot"] (defScope st__law_right) := ⟨rfl, rfl, rfl, by decide +kernel, rfl, by decide +kernel, by decide +kernel⟩
def r__law_right (sp__law_type_drawn : DS1) (sp__law_few : DS1) (sp__law_shown : DS1) (sp_type_text : DSp) (sp_read_type : DSp) (sp__law_otherwise : DS1) (sp__law_take : DS1) (sp__law_is_read : DS1) (sp__law_of : DS1) : DTS := (dSeq (dAsg (dCall1 sp__law_type_drawn (dCons (dSlot 0) (dCons (dCall1 sp__law_few (dCons (dSlot 0) dNil)) (dCons (dC (.int 4)) dNil)))) (dgName 1)) (dSeq (dAsg (dCall1 sp__law_shown (dCons (dSlot 1) dNil)) (dgName 2)) (dSeq (dIfS (dOrT (dB (dOp (rEqD2 true) (dCallE sp_type_text (dCons (dSlot 1) dNil) fun _ _ _ => False) (dSlot 2))) (dB (dOp (rEqD2 true) (dCB rReprD (dCons (dCallE sp_read_type (dCons (dSlot 2) dNil) fun _ _ _ => False) dNil)) (dCB rReprD (dCons (dSlot 1) dNil))))) (dRet (dC (.bl false))) dNext) (dSeq (dFor (dRange1 (dC (.int 10))) (dgName 3) (dSeq (dAsg (dCall1 sp__law_otherwise (dCons (dSlot 0) (dCons (dSlot 2) dNil))) (dgName 6)) (dSeq (dAsg (dIf (dB (dOp (rEqD2 false) (dCall1 sp__law_take (dCons (dSlot 0) (dCons (dC (.int 3)) dNil))) (dC (.int 0)))) (dCall1 sp__law_otherwise (dCons (dSlot 0) (dCons (dSlot 6) dNil))) (dSlot 6)) (dgName 6)) (dIfS (dNotT (dB (dCall1 sp__law_is_read (dCons (dSlot 6) dNil)))) (dRet (dC (.bl false))) dNext)))) (dSeq (dAsg (dCall1 sp__law_of (dCons (dSlot 0) (dCons (dLst true (dCons (dC .non) (dCons (dC (.int 7)) (dCons (dLst true (dCons (dC (.str "'a'")) dNil)) (dCons (dTup (dCons (dC (.str "text")) (dCons (dC (.str "a")) dNil))) (dCons (dC (.bl true)) (dCons (dTup (dCons (dC (.str "a")) (dCons (dC (.int 1)) dNil))) dNil))))))) dNil))) (dgName 4)) (dSeq (dAsg (dOp rIxD (dHeard kn fun E1 => (dCallE sp_read_type (dCons (dSlot 4) dNil) E1)) (dC (.int 0))) (dgName 5)) (dSeq (dIfS (dOrT (dNotT (dB (dIsE kn (isC "NoTypeText") (dSlot 5)))) (dB (dOp (rEqD2 true) (dCB rReprD (dCons (dExcV kn (dSlot 5)) dNil)) (dCB rReprD (dCons (dSlot 4) dNil))))) (dRet (dC (.bl false))) dNext) (dSeq (dAsg (dLst true (dCons (dC .non) (dCons (dSlot 2) (dCons (dCB (rListD true) (dCons (dSlot 1) dNil)) (dCons (dTup (dCons (dC (.str "sign")) (dCons (dC (.str "ba")) dNil))) (dCons (dTup (dCons (dC (.str "text")) (dCons (dC (.str "A")) dNil))) (dCons (dTup (dCons (dC (.str "star")) (dCons (dSlot 1) (dCons (dSlot 1) dNil)))) (dCons (dTup (dCons (dC (.str "text")) (dCons (dOp (rMulD true) (dC (.str "a")) (dC (.int 21))) dNil))) dNil)))))))) (dgName 4)) (dSeq (dAsg (dCall1 sp__law_of (dCons (dSlot 0) (dCons (dSlot 4) dNil))) (dgName 4)) (dSeq (dAsg (dOp rIxD (dHeard kn fun E1 => (dCallE sp_type_text (dCons (dSlot 4) dNil) E1)) (dC (.int 0))) (dgName 5)) (dRet (dAndV (dIsE kn (isC "BadType") (dSlot 5)) (dOp (rEqD2 false) (dCB rReprD (dCons (dExcV kn (dSlot 5)) dNil)) (dCB rReprD (dCons (dSlot 4) dNil)))))))))))))))
abbrev st_law : Stmt := topS 56
abbrev N_law : List Str := ["script", "text", "caught", "place"]
theorem sc_law : FnScope N_law ["script"] (defScope st_law) := ⟨rfl, rfl, rfl, by decide +kernel, rfl, by decide +kernel, by decide +kernel⟩
def r_law (sp__law_hand : DS1) (sp_read_type : DSp) (sp__law_cells : DS1) (sp__law_right : DS1) (sp__law_pot : DS1) : DTS := (dSeq (dFor (dIt (dCall1 sp__law_hand dNil)) (dgName 1) (dSeq (dAsg (dOp rIxD (dHeard kn fun E1 => (dCallE sp_read_type (dCons (dSlot 1) dNil) E1)) (dC (.int 0))) (dgName 2)) (dIfS (dNotT (dB (dIsE kn (isC "NoTypeText") (dSlot 2)))) (dRet (dC (.bl false))) dNext))) (dSeq (dIfS (dB (dOp (rEqD2 true) (dCallE sp_read_type (dCons (dC (.str "('/ '|[/ ,])*")) dNil) fun _ _ _ => False) (dTup (dCons (dC (.str "star")) (dCons (dTup (dCons (dC (.str "or")) (dCons (dTup (dCons (dC (.str "text")) (dCons (dC (.str "\x0a ")) dNil))) (dCons (dTup (dCons (dC (.str "sign")) (dCons (dC (.str "\x0a ,")) dNil))) dNil)))) dNil))))) (dRet (dC (.bl false))) dNext) (dRet (dCB rAllD (dCons (dLc true (dIt (dCall1 sp__law_cells (dCons (dSlot 0) (dCons (dC (.int 3)) dNil)))) (dgName 3) dYes (dCall1 sp__law_right (dCons (dCall1 sp__law_pot (dCons (dSlot 0) (dCons (dSlot 3) dNil))) dNil)) [3]) dNil)))))
/-- what the text's top leaves, as the walk asks it -/
structure Txt (K : PySem.W.Frag) (mg : Str → Option Value) : Prop where
  m_abs : mg "abs" = none
  m_all : mg "all" = none
  m_int : mg "int" = none
  m_isinstance : mg "isinstance" = none
  m_len : mg "len" = none
  m_list : mg "list" = none
  m_max : mg "max" = none
  m_min : mg "min" = none
  m_range : mg "range" = none
  m_repr : mg "repr" = none
  m_set : mg "set" = none
  m_sorted : mg "sorted" = none
  m_str : mg "str" = none
  m_sum : mg "sum" = none
  m_tuple : mg "tuple" = none
  m_zip : mg "zip" = none
  g_AGAIN : Glob K mg "AGAIN" v_AGAIN
  g_BAR : Glob K mg "BAR" v_BAR
  g_BLANK : Glob K mg "BLANK" v_BLANK
  g_CAT : Glob K mg "CAT" v_CAT
  g_FEED : Glob K mg "FEED" v_FEED
  g_LEAVES : Glob K mg "LEAVES" v_LEAVES
  g_MOST_DEEP : Glob K mg "MOST_DEEP" v_MOST_DEEP
  g_MOST_LEAF : Glob K mg "MOST_LEAF" v_MOST_LEAF
  g_MOST_NODES : Glob K mg "MOST_NODES" v_MOST_NODES
  g_OR : Glob K mg "OR" v_OR
  g_PAIR : Glob K mg "PAIR" v_PAIR
  g_PAIRS : Glob K mg "PAIRS" v_PAIRS
  g_QUOTE : Glob K mg "QUOTE" v_QUOTE
  g_SIGN : Glob K mg "SIGN" v_SIGN
  g_SIGNS : Glob K mg "SIGNS" v_SIGNS
  g_STAR : Glob K mg "STAR" v_STAR
  g_TEXT : Glob K mg "TEXT" v_TEXT
  g_TRIPLE : Glob K mg "TRIPLE" v_TRIPLE
  g_WORDS : Glob K mg "WORDS" v_WORDS
  h_is_tuple : Has K mg "is_tuple" "is_tuple" st_is_tuple ["value", "least", "most"] []
  h_is_word : Has K mg "is_word" "is_word" st_is_word ["value", "words"] []
  h_is_text : Has K mg "is_text" "is_text" st_is_text ["value", "most"] []
  h_is_leaf : Has K mg "is_leaf" "is_leaf" st_is_leaf ["value"] []
  h_is_node : Has K mg "is_node" "is_node" st_is_node ["value"] []
  h_parts_of : Has K mg "parts_of" "parts_of" st_parts_of ["term"] []
  h_is_type : Has K mg "is_type" "is_type" st_is_type ["value"] []
  h_check_type : Has K mg "check_type" "check_type" st_check_type ["value"] []
  h_signs_shown : Has K mg "signs_shown" "signs_shown" st_signs_shown ["text"] []
  h_shown : Has K mg "shown" "shown" st_shown ["term"] []
  h_type_text : Has K mg "type_text" "type_text" st_type_text ["term"] []
  h_TypeText_init : HasC K mg "TypeText" "TypeText.__init__" st_TypeText_init ["self", "text"]
  h_TypeText_is_next : HasM K "TypeText" "is_next" "TypeText.is_next" st_TypeText_is_next ["self", "sign"]
  h_TypeText_row_to : HasM K "TypeText" "row_to" "TypeText.row_to" st_TypeText_row_to ["self", "sign"]
  h_TypeText_leaf : HasM K "TypeText" "leaf" "TypeText.leaf" st_TypeText_leaf ["self", "word", "sign"]
  h_TypeText_couple : HasM K "TypeText" "couple" "TypeText.couple" st_TypeText_couple ["self"]
  h_TypeText_node : HasM K "TypeText" "node" "TypeText.node" st_TypeText_node ["self"]
  h_read_type : Has K mg "read_type" "read_type" st_read_type ["text"] []
  h__law_pot : Has K mg "_law_pot" "_law_pot" st__law_pot ["script", "place"] []
  h__law_take : Has K mg "_law_take" "_law_take" st__law_take ["pot", "upto"] []
  h__law_of : Has K mg "_law_of" "_law_of" st__law_of ["pot", "some"] []
  h__law_cells : Has K mg "_law_cells" "_law_cells" st__law_cells ["script", "limit"] []
  h__law_some : Has K mg "_law_some" "_law_some" st__law_some ["pot", "pool", "many"] []
  h__law_heard : Has K mg "_law_heard" "_law_heard" st__law_heard ["call"] []
  h__law_signs : Has K mg "_law_signs" "_law_signs" st__law_signs [] []
  h__law_few : Has K mg "_law_few" "_law_few" st__law_few ["pot"] []
  h__law_leaf : Has K mg "_law_leaf" "_law_leaf" st__law_leaf ["pot", "signs"] []
  h__law_type_drawn : Has K mg "_law_type_drawn" "_law_type_drawn" st__law_type_drawn ["pot", "signs", "deep"] []
  h__law_shown : Has K mg "_law_shown" "_law_shown" st__law_shown ["term"] []
  h__law_is_read : Has K mg "_law_is_read" "_law_is_read" st__law_is_read ["text"] []
  h__law_otherwise : Has K mg "_law_otherwise" "_law_otherwise" st__law_otherwise ["pot", "text"] []
  h__law_hand : Has K mg "_law_hand" "_law_hand" st__law_hand [] []
  h__law_right : Has K mg "_law_right" "_law_right" st__law_right ["pot"] []
  f_TypeText_text : Fld K "TypeText" "text"
  f_TypeText_at : Fld K "TypeText" "at"
  f_TypeText_deep : Fld K "TypeText" "deep"
  w_FEED_FEED_SIGN : Two mg "FEED" "FEED_SIGN" "\x0a" "/"
  w_FEED_SIGN_FEED : Two mg "FEED_SIGN" "FEED" "/" "\x0a"
section
variable {P : Program} {w : World} {K : PySem.W.Frag} {mg : Str → Option Value} {base : Heap}
theorem c_is_tuple {k : Nat} {TT : TT8} (T : Txt K mg) {sp : DS1} (read : ∀ ds M Q, sp ds M Q → ds.length = 3 ∧ r_is_tuple { nx := fun _ M' => Q .non M', rt := Q } (dstart N_is_tuple ds) M) : Cal1 P w K TT mg base (k + 1) "is_tuple" sp :=
  dcal1 T.h_is_tuple sc_is_tuple (t := r_is_tuple) (fun f cdv A outer s H E Y E1 hT hr gu g =>
    (dss_one (ds_ret (de_and (de_isi T.m_isinstance T.m_tuple (de_v 0)) (de_one (de_chain od_le od_le (de_v 1) (de_b cd_len T.m_len (da_cons (de_v 0) da_nil)) (de_v 2))))))) read
theorem c_is_word {k : Nat} {TT : TT8} (T : Txt K mg) {sp : DS1} (read : ∀ ds M Q, sp ds M Q → ds.length = 2 ∧ r_is_word { nx := fun _ M' => Q .non M', rt := Q } (dstart N_is_word ds) M) : Cal1 P w K TT mg base (k + 1) "is_word" sp :=
  dcal1 T.h_is_word sc_is_word (t := r_is_word) (fun f cdv A outer s H E Y E1 hT hr gu g =>
    (dss_one (ds_ret (de_and (de_isi T.m_isinstance T.m_str (de_v 0)) (de_one (de_cmp od_in (de_v 0) (de_v 1) (by with_unfolding_all rfl))))))) read
theorem c_is_text {k : Nat} {TT : TT8} (T : Txt K mg) {sp : DS1} (read : ∀ ds M Q, sp ds M Q → ds.length = 2 ∧ r_is_text { nx := fun _ M' => Q .non M', rt := Q } (dstart N_is_text ds) M) : Cal1 P w K TT mg base (k + 1) "is_text" sp :=
  dcal1 T.h_is_text sc_is_text (t := r_is_text) (fun f cdv A outer s H E Y E1 hT hr gu g =>
    (dss_one (ds_ret (de_and (de_isi T.m_isinstance T.m_str (de_v 0)) (de_and (de_cmp od_le (de_b cd_len T.m_len (da_cons (de_v 0) da_nil)) (de_v 1) (nomark _)) (de_one (de_b (cd_all rfl) T.m_all (da_cons (de_lc true (own := [("sign", 2)]) (g := (dgName 2)) (tt := dYes) (te := (dOp (rInD false) (dSlot 2) (dC v_SIGNS))) rfl sc_is_text.nd (di_it (de_v 0)) (blkOk_by (own := [("sign", 2)]) (N := N_is_text) (sc := defScope st_is_text) (by decide +kernel)) (by decide) (fun _ _ _ _ _ => (dg_name (i := 2) sc_is_text.nd rfl (by first | exact Or.inl rfl | exact Or.inr rfl))) (fun _ _ _ _ _ => dts_nil) (fun _ _ _ _ _ => (de_cmp od_in (de_v 2) (de_g T.g_SIGNS) (by with_unfolding_all rfl)))) da_nil)))))))) read
theorem c_is_leaf {k : Nat} {TT : TT8} (T : Txt K mg) {sp_is_text : DS1} (c_is_text : Cal1 P w K TT mg base k "is_text" sp_is_text) {sp : DS1} (read : ∀ ds M Q, sp ds M Q → ds.length = 1 ∧ r_is_leaf sp_is_text { nx := fun _ M' => Q .non M', rt := Q } (dstart N_is_leaf ds) M) : Cal1 P w K TT mg base (k + 1) "is_leaf" sp :=
  dcal1 T.h_is_leaf sc_is_leaf (t := r_is_leaf sp_is_text) (fun f cdv A outer s H E Y E1 hT hr gu g =>
    (dss_cons (ds_if (dt_cmp (od_eq hr) (de_ix (de_v 0) de_int) (de_g T.g_TEXT) (nomark _)) (dss_one (ds_ret (de_call1 (c_is_text.on hT) hr gu g.xt (da_cons (de_ix (de_v 0) de_int) (da_cons (de_g T.g_MOST_LEAF) da_nil))))) dss_nil)
    (dss_cons (ds_if (dt_w (dw_or (dt_not (dt_val (de_call1 (c_is_text.on hT) hr gu g.xt (da_cons (de_ix (de_v 0) de_int) (da_cons (de_b cd_len T.m_len (da_cons (de_g T.g_SIGNS) da_nil)) da_nil))))) (dw_or1 (dt_cmp (od_eq hr) (de_ix (de_v 0) de_int) de_str (nomark _))))) (dss_one (ds_ret de_bl)) dss_nil)
    (dss_one (ds_ret (de_b (cd_all rfl) T.m_all (da_cons (de_lc true (own := [("one", 1), ("other", 2)]) (g := (dgTup 2 (dgCons (dgName 1) (dgCons (dgName 2) dgNil)))) (tt := dYes) (te := (dOp rLtD (dSlot 1) (dSlot 2))) rfl sc_is_leaf.nd (di_zipS T.m_zip (de_ix (de_v 0) de_int) (de_slice true (de_ix (de_v 0) de_int) (do_some de_int) do_none)) (blkOk_by (own := [("one", 1), ("other", 2)]) (N := N_is_leaf) (sc := defScope st_is_leaf) (by decide +kernel)) (by decide) (fun _ _ _ _ _ => (dg_tup rfl (dgs_cons (dg_name (i := 1) sc_is_leaf.nd rfl (by first | exact Or.inl rfl | exact Or.inr rfl)) (dgs_cons (dg_name (i := 2) sc_is_leaf.nd rfl (by first | exact Or.inl rfl | exact Or.inr rfl)) dgs_nil)))) (fun _ _ _ _ _ => dts_nil) (fun _ _ _ _ _ => (de_cmp od_lt (de_v 1) (de_v 2) (nomark _)))) da_nil))))))) read
theorem c_is_node {k : Nat} {TT : TT8} (T : Txt K mg) {sp_is_tuple : DS1} (c_is_tuple : Cal1 P w K TT mg base k "is_tuple" sp_is_tuple) {sp_is_word : DS1} (c_is_word : Cal1 P w K TT mg base k "is_word" sp_is_word) {sp_is_leaf : DS1} (c_is_leaf : Cal1 P w K TT mg base k "is_leaf" sp_is_leaf) {sp : DS1} (read : ∀ ds M Q, sp ds M Q → ds.length = 1 ∧ r_is_node sp_is_tuple sp_is_word sp_is_leaf { nx := fun _ M' => Q .non M', rt := Q } (dstart N_is_node ds) M) : Cal1 P w K TT mg base (k + 1) "is_node" sp :=
  dcal1 T.h_is_node sc_is_node (t := r_is_node sp_is_tuple sp_is_word sp_is_leaf) (fun f cdv A outer s H E Y E1 hT hr gu g =>
    (dss_cons (ds_if (dt_w (dw_or (dt_not (dt_val (de_call1 (c_is_tuple.on hT) hr gu g.xt (da_cons (de_v 0) (da_cons (de_g T.g_PAIR) (da_cons (de_g T.g_TRIPLE) da_nil)))))) (dw_or1 (dt_not (dt_val (de_call1 (c_is_word.on hT) hr gu g.xt (da_cons (de_ix (de_v 0) de_int) (da_cons (de_g T.g_WORDS) da_nil)))))))) (dss_one (ds_ret de_bl)) dss_nil)
    (dss_cons (ds_if (dt_cmp (od_ne hr) (de_b cd_len T.m_len (da_cons (de_v 0) da_nil)) (de_if (dt_cmp od_in (de_ix (de_v 0) de_int) (de_g T.g_PAIRS) (by with_unfolding_all rfl)) (de_g T.g_TRIPLE) (de_g T.g_PAIR)) (nomark _)) (dss_one (ds_ret de_bl)) dss_nil)
    (dss_one (ds_ret (de_or (de_cmp od_notIn (de_ix (de_v 0) de_int) (de_g T.g_LEAVES) (by with_unfolding_all rfl)) (de_one (de_call1 (c_is_leaf.on hT) hr gu g.xt (da_cons (de_v 0) da_nil))))))))) read
theorem c_parts_of {k : Nat} {TT : TT8} (T : Txt K mg) {sp : DS1} (read : ∀ ds M Q, sp ds M Q → ds.length = 1 ∧ r_parts_of { nx := fun _ M' => Q .non M', rt := Q } (dstart N_parts_of ds) M) : Cal1 P w K TT mg base (k + 1) "parts_of" sp :=
  dcal1 T.h_parts_of sc_parts_of (t := r_parts_of) (fun f cdv A outer s H E Y E1 hT hr gu g =>
    (dss_one (ds_ret (de_if (dt_cmp od_in (de_ix (de_v 0) de_int) (de_g T.g_LEAVES) (by with_unfolding_all rfl)) (de_tup da_nil) (de_slice true (de_v 0) (do_some de_int) do_none))))) read
theorem c_is_type {k : Nat} {TT : TT8} (T : Txt K mg) {sp_is_node : DS1} (c_is_node : Cal1 P w K TT mg base k "is_node" sp_is_node) {sp_parts_of : DS1} (c_parts_of : Cal1 P w K TT mg base k "parts_of" sp_parts_of) {sp : DS1} (read : ∀ ds M Q, sp ds M Q → ds.length = 1 ∧ r_is_type sp_is_node sp_parts_of { nx := fun _ M' => Q .non M', rt := Q } (dstart N_is_type ds) M) : Cal1 P w K TT mg base (k + 1) "is_type" sp :=
  dcal1 T.h_is_type sc_is_type (t := r_is_type sp_is_node sp_parts_of) (fun f cdv A outer s H E Y E1 hT hr gu g =>
    (dss_cons (ds_par (i := 1) (j := 2) rfl sc_is_type.nd rfl rfl (by decide) rfl rfl (da_cons (de_lst false (da_cons (de_tup (da_cons (de_v 0) (da_cons de_int da_nil))) da_nil)) (da_cons de_int da_nil)))
    (dss_cons (ds_while (passes_of rfl) (dt_cmp (od_ne hr) (de_v 1) (de_lst true da_nil) (nomark _)) (dss_cons (ds_asg (de_pop (de_v 1)) (dg_tup rfl (dgs_cons (dg_name (i := 3) sc_is_type.nd rfl (by first | exact Or.inl rfl | exact Or.inr rfl)) (dgs_cons (dg_name (i := 4) sc_is_type.nd rfl (by first | exact Or.inl rfl | exact Or.inr rfl)) dgs_nil))))
    (dss_cons (ds_set (i := 2) sc_is_type.nd rfl (by first | exact Or.inl rfl | exact Or.inr rfl) (de_op (od_add true) (de_v 2) de_int))
    (dss_cons (ds_if (dt_w (dw_or (dt_cmp od_gt (de_v 2) (de_g T.g_MOST_NODES) (nomark _)) (dw_or (dt_cmp od_gt (de_v 4) (de_g T.g_MOST_DEEP) (nomark _)) (dw_or1 (dt_not (dt_val (de_call1 (c_is_node.on hT) hr gu g.xt (da_cons (de_v 3) da_nil)))))))) (dss_one (ds_ret de_bl)) dss_nil)
    (dss_one (ds_expr (de_extend (de_v 1) (de_lc true (own := [("part", 5)]) (g := (dgName 5)) (tt := dYes) (te := (dTup (dCons (dSlot 5) (dCons (dOp (rAddD true) (dSlot 4) (dC (.int 1))) dNil)))) rfl sc_is_type.nd (di_it (de_call1 (c_parts_of.on hT) hr gu g.xt (da_cons (de_v 3) da_nil))) (blkOk_by (own := [("part", 5)]) (N := N_is_type) (sc := defScope st_is_type) (by decide +kernel)) (by decide) (fun _ _ _ _ _ => (dg_name (i := 5) sc_is_type.nd rfl (by first | exact Or.inl rfl | exact Or.inr rfl))) (fun _ _ _ _ _ => dts_nil) (fun _ _ _ _ _ => (de_tup (da_cons (de_v 5) (da_cons (de_op (od_add true) (de_v 4) de_int) da_nil))))))))))))
    (dss_one (ds_ret de_bl))))) read
theorem c_check_type {k : Nat} {TT : TT8} (T : Txt K mg) (XE : Exs P w K mg base) (hk : 2 ≤ k) {sp_is_type : DS1} (c_is_type : Cal1 P w K TT mg base k "is_type" sp_is_type) {sp : DSp} (read : ∀ ds M Q E, sp ds M Q E → ds.length = 1 ∧ r_check_type E sp_is_type { nx := fun _ M' => Q .non M', rt := Q } (dstart N_check_type ds) M) : Cal P w K TT mg base (k + 1) "check_type" [] sp :=
  dcal T.h_check_type sc_check_type (t := fun E1 => r_check_type E1 sp_is_type) (fun f cdv A outer s H E Y E1 hT hr gu g =>
    (dss_one (ds_if (dt_not (dt_val (de_call1 (c_is_type.on hT) hr gu g.xt (da_cons (de_v 0) da_nil)))) (dss_one (ds_raise XE.x_BadType (hr.mono hk) g rfl (de_v 0))) dss_nil))) read
theorem c_signs_shown {k : Nat} {TT : TT8} (T : Txt K mg) {sp : DS1} (read : ∀ ds M Q, sp ds M Q → ds.length = 1 ∧ r_signs_shown { nx := fun _ M' => Q .non M', rt := Q } (dstart N_signs_shown ds) M) : Cal1 P w K TT mg base (k + 1) "signs_shown" sp :=
  dcal1 T.h_signs_shown sc_signs_shown (t := r_signs_shown) (fun f cdv A outer s H E Y E1 hT hr gu g =>
    (dss_one (ds_ret (de_repG T.w_FEED_FEED_SIGN (by decide) (de_v 0))))) read
theorem c_shown {k : Nat} {TT : TT8} (T : Txt K mg) {sp_signs_shown : DS1} (c_signs_shown : Cal1 P w K TT mg base k "signs_shown" sp_signs_shown) {sp_shown : DS1} (c_shown : Cal1 P w K TT mg base k "shown" sp_shown) {sp : DS1} (read : ∀ ds M Q, sp ds M Q → ds.length = 1 ∧ r_shown sp_signs_shown sp_shown { nx := fun _ M' => Q .non M', rt := Q } (dstart N_shown ds) M) : Cal1 P w K TT mg base (k + 1) "shown" sp :=
  dcal1 T.h_shown sc_shown (t := r_shown sp_signs_shown sp_shown) (fun f cdv A outer s H E Y E1 hT hr gu g =>
    (dss_cons (ds_set (i := 1) sc_shown.nd rfl (by first | exact Or.inl rfl | exact Or.inr rfl) (de_ix (de_v 0) de_int))
    (dss_cons (ds_if (dt_cmp (od_eq hr) (de_v 1) (de_g T.g_TEXT) (nomark _)) (dss_one (ds_ret (de_op (od_add true) (de_op (od_add true) (de_g T.g_QUOTE) (de_call1 (c_signs_shown.on hT) hr gu g.xt (da_cons (de_ix (de_v 0) de_int) da_nil))) (de_g T.g_QUOTE)))) dss_nil)
    (dss_cons (ds_if (dt_cmp (od_eq hr) (de_v 1) (de_g T.g_SIGN) (nomark _)) (dss_one (ds_ret (de_op (od_add true) (de_op (od_add true) de_str (de_call1 (c_signs_shown.on hT) hr gu g.xt (da_cons (de_ix (de_v 0) de_int) da_nil))) de_str))) dss_nil)
    (dss_cons (ds_if (dt_cmp (od_eq hr) (de_v 1) (de_g T.g_STAR) (nomark _)) (dss_one (ds_ret (de_op (od_add true) (de_call1 (c_shown.on hT) hr gu g.xt (da_cons (de_ix (de_v 0) de_int) da_nil)) (de_g T.g_AGAIN)))) dss_nil)
    (dss_one (ds_ret (de_op (od_add true) (de_op (od_add true) (de_op (od_add true) (de_op (od_add true) de_str (de_call1 (c_shown.on hT) hr gu g.xt (da_cons (de_ix (de_v 0) de_int) da_nil))) (de_if (dt_cmp (od_eq hr) (de_v 1) (de_g T.g_CAT) (nomark _)) (de_g T.g_BLANK) (de_g T.g_BAR))) (de_call1 (c_shown.on hT) hr gu g.xt (da_cons (de_ix (de_v 0) (de_g T.g_PAIR)) da_nil))) de_str)))))))) read
theorem c_type_text {k : Nat} {TT : TT8} (T : Txt K mg) {sp_check_type : DSp} (c_check_type : Cal P w K TT mg base k "check_type" [] sp_check_type) {sp_shown : DS1} (c_shown : Cal1 P w K TT mg base k "shown" sp_shown) {sp : DSp} (read : ∀ ds M Q E, sp ds M Q E → ds.length = 1 ∧ r_type_text E sp_check_type sp_shown { nx := fun _ M' => Q .non M', rt := Q } (dstart N_type_text ds) M) : Cal P w K TT mg base (k + 1) "type_text" [] sp :=
  dcal T.h_type_text sc_type_text (t := fun E1 => r_type_text E1 sp_check_type sp_shown) (fun f cdv A outer s H E Y E1 hT hr gu g =>
    (dss_cons (ds_expr (de_callE (c_check_type.on hT) hr gu g (da_cons (de_v 0) da_nil)))
    (dss_one (ds_ret (de_call1 (c_shown.on hT) hr gu g.xt (da_cons (de_v 0) da_nil)))))) read
theorem c_TypeText_init {k : Nat} {TT : TT8} (T : Txt K mg) {sp : DS1} (read : ∀ ds M Q, sp ds M Q → ds.length = 2 ∧ r_TypeText_init { nx := fun _ M' => Q .non M', rt := Q } (dstart N_TypeText_init ds) M) : CalC P w K TT mg base (k + 1) "TypeText" sp :=
  dcalC T.h_TypeText_init sc_TypeText_init (t := r_TypeText_init) (fun f cdv A outer s H E Y E1 hT hr gu g =>
    (dss_cons (ds_setF T.f_TypeText_text (de_v 0) (de_v 1))
    (dss_cons (ds_setF T.f_TypeText_at (de_v 0) de_int)
    (dss_one (ds_setF T.f_TypeText_deep (de_v 0) de_int))))) read
theorem c_TypeText_is_next {k : Nat} {TT : TT8} (T : Txt K mg) {sp : DS1} (read : ∀ ds M Q, sp ds M Q → ds.length = 2 ∧ r_TypeText_is_next { nx := fun _ M' => Q .non M', rt := Q } (dstart N_TypeText_is_next ds) M) : CalM P w K TT mg base (k + 1) "TypeText" "is_next" sp :=
  dcalM T.h_TypeText_is_next sc_TypeText_is_next (t := r_TypeText_is_next) (fun f cdv A outer s H E Y E1 hT hr gu g =>
    (dss_cons (ds_set (i := 2) sc_TypeText_is_next.nd rfl (by first | exact Or.inl rfl | exact Or.inr rfl) (de_cmp (od_eq hr) (de_slice true (de_fld T.f_TypeText_text (de_v 0)) (do_some (de_fld T.f_TypeText_at (de_v 0))) (do_some (de_op (od_add true) (de_fld T.f_TypeText_at (de_v 0)) de_int))) (de_v 1) (nomark _)))
    (dss_cons (ds_setF T.f_TypeText_at (de_v 0) (de_op (od_add true) (de_fld T.f_TypeText_at (de_v 0)) (de_bT cd_int T.m_int (da_cons (de_v 2) da_nil))))
    (dss_one (ds_ret (de_v 2)))))) read
theorem c_TypeText_row_to {k : Nat} {TT : TT8} (T : Txt K mg) {sp_TypeText_is_next : DS1} (c_TypeText_is_next : CalM P w K TT mg base k "TypeText" "is_next" sp_TypeText_is_next) {sp : DS1} (read : ∀ ds M Q, sp ds M Q → ds.length = 2 ∧ r_TypeText_row_to sp_TypeText_is_next { nx := fun _ M' => Q .non M', rt := Q } (dstart N_TypeText_row_to ds) M) : CalM P w K TT mg base (k + 1) "TypeText" "row_to" sp :=
  dcalM T.h_TypeText_row_to sc_TypeText_row_to (t := r_TypeText_row_to sp_TypeText_is_next) (fun f cdv A outer s H E Y E1 hT hr gu g =>
    (dss_cons (ds_set (i := 2) sc_TypeText_row_to.nd rfl (by first | exact Or.inl rfl | exact Or.inr rfl) (de_fld T.f_TypeText_at (de_v 0)))
    (dss_cons (ds_while (passes_of rfl) (dt_w (dw_and (dt_cmp od_lt (de_fld T.f_TypeText_at (de_v 0)) (de_b cd_len T.m_len (da_cons (de_fld T.f_TypeText_text (de_v 0)) da_nil)) (nomark _)) (dw_and1 (dt_cmp (od_ne hr) (de_ix (de_fld T.f_TypeText_text (de_v 0)) (de_fld T.f_TypeText_at (de_v 0))) (de_v 1) (nomark _))))) (dss_one (ds_setF T.f_TypeText_at (de_v 0) (de_op (od_add true) (de_fld T.f_TypeText_at (de_v 0)) de_int))))
    (dss_cons (ds_set (i := 3) sc_TypeText_row_to.nd rfl (by first | exact Or.inl rfl | exact Or.inr rfl) (de_repG T.w_FEED_SIGN_FEED (by decide) (de_slice true (de_fld T.f_TypeText_text (de_v 0)) (do_some (de_v 2)) (do_some (de_fld T.f_TypeText_at (de_v 0))))))
    (dss_cons (ds_if (dt_w (dw_or (dt_not (dt_val (de_meth (pl := _) (c_TypeText_is_next.on hT) hr gu g.xt (de_v 0) (da_cons (de_v 1) da_nil)))) (dw_or1 (dt_cmp od_in (de_g T.g_FEED) (de_slice true (de_fld T.f_TypeText_text (de_v 0)) (do_some (de_v 2)) (do_some (de_fld T.f_TypeText_at (de_v 0)))) (by with_unfolding_all rfl))))) (dss_one (ds_ret de_non)) dss_nil)
    (dss_one (ds_ret (de_v 3)))))))) read
theorem c_TypeText_leaf {k : Nat} {TT : TT8} (T : Txt K mg) {sp_TypeText_row_to : DS1} (c_TypeText_row_to : CalM P w K TT mg base k "TypeText" "row_to" sp_TypeText_row_to) {sp_is_leaf : DS1} (c_is_leaf : Cal1 P w K TT mg base k "is_leaf" sp_is_leaf) {sp : DS1} (read : ∀ ds M Q, sp ds M Q → ds.length = 3 ∧ r_TypeText_leaf sp_TypeText_row_to sp_is_leaf { nx := fun _ M' => Q .non M', rt := Q } (dstart N_TypeText_leaf ds) M) : CalM P w K TT mg base (k + 1) "TypeText" "leaf" sp :=
  dcalM T.h_TypeText_leaf sc_TypeText_leaf (t := r_TypeText_leaf sp_TypeText_row_to sp_is_leaf) (fun f cdv A outer s H E Y E1 hT hr gu g =>
    (dss_cons (ds_set (i := 3) sc_TypeText_leaf.nd rfl (by first | exact Or.inl rfl | exact Or.inr rfl) (de_meth (pl := _) (c_TypeText_row_to.on hT) hr gu g.xt (de_v 0) (da_cons (de_v 2) da_nil)))
    (dss_one (ds_ret (de_if (dt_w (dw_or (dt_cmp od_is (de_v 3) de_non (nomark _)) (dw_or1 (dt_not (dt_val (de_call1 (c_is_leaf.on hT) hr gu g.xt (da_cons (de_tup (da_cons (de_v 1) (da_cons (de_v 3) da_nil))) da_nil))))))) de_non (de_tup (da_cons (de_v 1) (da_cons (de_v 3) da_nil)))))))) read
theorem c_TypeText_couple {k : Nat} {TT : TT8} (T : Txt K mg) {sp_TypeText_node : DS1} (c_TypeText_node : CalM P w K TT mg base k "TypeText" "node" sp_TypeText_node) {sp_TypeText_is_next : DS1} (c_TypeText_is_next : CalM P w K TT mg base k "TypeText" "is_next" sp_TypeText_is_next) {sp : DS1} (read : ∀ ds M Q, sp ds M Q → ds.length = 1 ∧ r_TypeText_couple sp_TypeText_node sp_TypeText_is_next { nx := fun _ M' => Q .non M', rt := Q } (dstart N_TypeText_couple ds) M) : CalM P w K TT mg base (k + 1) "TypeText" "couple" sp :=
  dcalM T.h_TypeText_couple sc_TypeText_couple (t := r_TypeText_couple sp_TypeText_node sp_TypeText_is_next) (fun f cdv A outer s H E Y E1 hT hr gu g =>
    (dss_cons (ds_set (i := 1) sc_TypeText_couple.nd rfl (by first | exact Or.inl rfl | exact Or.inr rfl) (de_meth0 (pl := _) (c_TypeText_node.on hT) hr gu g.xt (de_v 0)))
    (dss_cons (ds_set (i := 2) sc_TypeText_couple.nd rfl (by first | exact Or.inl rfl | exact Or.inr rfl) (de_if (dt_val (de_meth (pl := _) (c_TypeText_is_next.on hT) hr gu g.xt (de_v 0) (da_cons (de_g T.g_BLANK) da_nil))) (de_g T.g_CAT) (de_if (dt_val (de_meth (pl := _) (c_TypeText_is_next.on hT) hr gu g.xt (de_v 0) (da_cons (de_g T.g_BAR) da_nil))) (de_g T.g_OR) de_str)))
    (dss_cons (ds_set (i := 3) sc_TypeText_couple.nd rfl (by first | exact Or.inl rfl | exact Or.inr rfl) (de_if (dt_w (dw_and (dt_cmp od_isNot (de_v 1) de_non (nomark _)) (dw_and1 (dt_cmp (od_ne hr) (de_v 2) de_str (nomark _))))) (de_meth0 (pl := _) (c_TypeText_node.on hT) hr gu g.xt (de_v 0)) de_non))
    (dss_one (ds_ret (de_if (dt_w (dw_and (dt_cmp od_isNot (de_v 3) de_non (nomark _)) (dw_and1 (dt_val (de_meth (pl := _) (c_TypeText_is_next.on hT) hr gu g.xt (de_v 0) (da_cons de_str da_nil)))))) (de_tup (da_cons (de_v 2) (da_cons (de_v 1) (da_cons (de_v 3) da_nil)))) de_non))))))) read
theorem c_TypeText_node {k : Nat} {TT : TT8} (T : Txt K mg) {sp_TypeText_is_next : DS1} (c_TypeText_is_next : CalM P w K TT mg base k "TypeText" "is_next" sp_TypeText_is_next) {sp_TypeText_leaf : DS1} (c_TypeText_leaf : CalM P w K TT mg base k "TypeText" "leaf" sp_TypeText_leaf) {sp_TypeText_couple : DS1} (c_TypeText_couple : CalM P w K TT mg base k "TypeText" "couple" sp_TypeText_couple) {sp : DS1} (read : ∀ ds M Q, sp ds M Q → ds.length = 1 ∧ r_TypeText_node sp_TypeText_is_next sp_TypeText_leaf sp_TypeText_couple { nx := fun _ M' => Q .non M', rt := Q } (dstart N_TypeText_node ds) M) : CalM P w K TT mg base (k + 1) "TypeText" "node" sp :=
  dcalM T.h_TypeText_node sc_TypeText_node (t := r_TypeText_node sp_TypeText_is_next sp_TypeText_leaf sp_TypeText_couple) (fun f cdv A outer s H E Y E1 hT hr gu g =>
    (dss_cons (ds_setF T.f_TypeText_deep (de_v 0) (de_op (od_add true) (de_fld T.f_TypeText_deep (de_v 0)) de_int))
    (dss_cons (ds_if (dt_cmp od_gt (de_fld T.f_TypeText_deep (de_v 0)) (de_g T.g_MOST_DEEP) (nomark _)) (dss_one (ds_ret de_non)) dss_nil)
    (dss_cons (ds_if (dt_val (de_meth (pl := _) (c_TypeText_is_next.on hT) hr gu g.xt (de_v 0) (da_cons (de_g T.g_QUOTE) da_nil))) (dss_one (ds_set (i := 2) sc_TypeText_node.nd rfl (by first | exact Or.inl rfl | exact Or.inr rfl) (de_meth (pl := _) (c_TypeText_leaf.on hT) hr gu g.xt (de_v 0) (da_cons (de_g T.g_TEXT) (da_cons (de_g T.g_QUOTE) da_nil))))) (dss_one (ds_if (dt_val (de_meth (pl := _) (c_TypeText_is_next.on hT) hr gu g.xt (de_v 0) (da_cons de_str da_nil))) (dss_one (ds_set (i := 2) sc_TypeText_node.nd rfl (by first | exact Or.inl rfl | exact Or.inr rfl) (de_meth (pl := _) (c_TypeText_leaf.on hT) hr gu g.xt (de_v 0) (da_cons (de_g T.g_SIGN) (da_cons de_str da_nil))))) (dss_one (ds_set (i := 2) sc_TypeText_node.nd rfl (by first | exact Or.inl rfl | exact Or.inr rfl) (de_if (dt_val (de_meth (pl := _) (c_TypeText_is_next.on hT) hr gu g.xt (de_v 0) (da_cons de_str da_nil))) (de_meth0 (pl := _) (c_TypeText_couple.on hT) hr gu g.xt (de_v 0)) de_non))))))
    (dss_cons (ds_setF T.f_TypeText_deep (de_v 0) (de_op od_sub (de_fld T.f_TypeText_deep (de_v 0)) de_int))
    (dss_cons (ds_set (i := 1) sc_TypeText_node.nd rfl (by first | exact Or.inl rfl | exact Or.inr rfl) de_int)
    (dss_cons (ds_while (passes_of rfl) (dt_w (dw_and (dt_cmp od_isNot (de_v 2) de_non (nomark _)) (dw_and1 (dt_val (de_meth (pl := _) (c_TypeText_is_next.on hT) hr gu g.xt (de_v 0) (da_cons (de_g T.g_AGAIN) da_nil)))))) (dss_cons (ds_set (i := 1) sc_TypeText_node.nd rfl (by first | exact Or.inl rfl | exact Or.inr rfl) (de_op (od_add true) (de_v 1) de_int))
    (dss_one (ds_set (i := 2) sc_TypeText_node.nd rfl (by first | exact Or.inl rfl | exact Or.inr rfl) (de_if (dt_cmp od_lt (de_v 1) (de_g T.g_MOST_DEEP) (nomark _)) (de_tup (da_cons (de_g T.g_STAR) (da_cons (de_v 2) da_nil))) de_non)))))
    (dss_one (ds_ret (de_v 2)))))))))) read
theorem c_read_type {k : Nat} {TT : TT8} (T : Txt K mg) (XE : Exs P w K mg base) (hk : 2 ≤ k) {sp_TypeText_init : DS1} {j : Nat} (hj : j + 1 ≤ k) (c_TypeText_init : CalC P w K TT mg base j "TypeText" sp_TypeText_init) {sp_TypeText_node : DS1} (c_TypeText_node : CalM P w K TT mg base k "TypeText" "node" sp_TypeText_node) {sp_is_type : DS1} (c_is_type : Cal1 P w K TT mg base k "is_type" sp_is_type) {sp : DSp} (read : ∀ ds M Q E, sp ds M Q E → ds.length = 1 ∧ r_read_type E sp_TypeText_init sp_TypeText_node sp_is_type { nx := fun _ M' => Q .non M', rt := Q } (dstart N_read_type ds) M) : Cal P w K TT mg base (k + 1) "read_type" [] sp :=
  dcal T.h_read_type sc_read_type (t := fun E1 => r_read_type E1 sp_TypeText_init sp_TypeText_node sp_is_type) (fun f cdv A outer s H E Y E1 hT hr gu g =>
    (dss_cons (ds_if (dt_not (dt_val (de_isi T.m_isinstance T.m_str (de_v 0)))) (dss_one (ds_raise XE.x_NoTypeText (hr.mono hk) g rfl (de_v 0))) dss_nil)
    (dss_cons (ds_set (i := 1) sc_read_type.nd rfl (by first | exact Or.inl rfl | exact Or.inr rfl) (de_make (c_TypeText_init.on hT) (hr.mono hj) gu g.xt (da_cons (de_v 0) da_nil)))
    (dss_cons (ds_set (i := 2) sc_read_type.nd rfl (by first | exact Or.inl rfl | exact Or.inr rfl) (de_meth0 (pl := _) (c_TypeText_node.on hT) hr gu g.xt (de_v 1)))
    (dss_cons (ds_if (dt_w (dw_or (dt_cmp od_is (de_v 2) de_non (nomark _)) (dw_or (dt_cmp (od_ne hr) (de_fld T.f_TypeText_at (de_v 1)) (de_b cd_len T.m_len (da_cons (de_v 0) da_nil)) (nomark _)) (dw_or1 (dt_not (dt_val (de_call1 (c_is_type.on hT) hr gu g.xt (da_cons (de_v 2) da_nil)))))))) (dss_one (ds_raise XE.x_NoTypeText (hr.mono hk) g rfl (de_v 0))) dss_nil)
    (dss_one (ds_ret (de_v 2)))))))) read
theorem c__law_pot {k : Nat} {TT : TT8} (T : Txt K mg) {sp : DS1} (read : ∀ ds M Q, sp ds M Q → ds.length = 2 ∧ r__law_pot { nx := fun _ M' => Q .non M', rt := Q } (dstart N__law_pot ds) M) : Cal1 P w K TT mg base (k + 1) "_law_pot" sp :=
  dcal1 T.h__law_pot sc__law_pot (t := r__law_pot) (fun f cdv A outer s H E Y E1 hT hr gu g =>
    (dss_cons (ds_set (i := 2) sc__law_pot.nd rfl (by first | exact Or.inl rfl | exact Or.inr rfl) (de_if (dt_cmp od_lt (de_v 1) (de_b cd_len T.m_len (da_cons (de_v 0) da_nil)) (nomark _)) (de_ix (de_v 0) (de_v 1)) (de_op (od_add true) (de_op (od_add true) (de_op od_mod (de_b (cd_sum rfl) T.m_sum (da_cons (de_slice true (de_v 0) do_none (do_some de_int)) da_nil)) de_int) (de_op (od_mul true) de_int (de_v 1))) de_int)))
    (dss_cons (ds_set (i := 3) sc__law_pot.nd rfl (by first | exact Or.inl rfl | exact Or.inr rfl) (de_op (od_mul true) (de_op od_mod (de_bT cd_int T.m_int (da_cons (de_b cd_abs T.m_abs (da_cons (de_v 2) da_nil)) da_nil)) (de_op od_pows (de_op od_pows de_int de_int) de_int)) (de_bT cd_int T.m_int (da_cons (de_cmp od_ge (de_b cd_abs T.m_abs (da_cons (de_v 2) da_nil)) (de_op od_pows de_int de_int) (nomark _)) da_nil))))
    (dss_cons (ds_set (i := 4) sc__law_pot.nd rfl (by first | exact Or.inl rfl | exact Or.inr rfl) (de_op od_mod (de_bT cd_int T.m_int (da_cons (de_v 2) da_nil)) de_int))
    (dss_one (ds_ret (de_lst false (da_cons (de_v 3) (da_cons (de_op od_mod (de_bT cd_int T.m_int (da_cons (de_op (od_add true) (de_op (od_add true) (de_op (od_mul true) (de_v 4) de_int) (de_op (od_mul true) (de_op (od_mul true) de_int (de_v 1)) (de_v 1))) de_int) da_nil)) de_int) (da_cons de_int da_nil)))))))))) read
theorem c__law_take {k : Nat} {TT : TT8} (T : Txt K mg) {sp : DS1} (read : ∀ ds M Q, sp ds M Q → ds.length = 2 ∧ r__law_take { nx := fun _ M' => Q .non M', rt := Q } (dstart N__law_take ds) M) : Cal1 P w K TT mg base (k + 1) "_law_take" sp :=
  dcal1 T.h__law_take sc__law_take (t := r__law_take) (fun f cdv A outer s H E Y E1 hT hr gu g =>
    (dss_cons (ds_if (dt_cmp od_gt (de_ix (de_v 0) de_int) de_int (nomark _)) (dss_cons (ds_set (i := 4) sc__law_take.nd rfl (by first | exact Or.inl rfl | exact Or.inr rfl) (de_op od_mod (de_bT cd_int T.m_int (da_cons (de_ix (de_v 0) de_int) da_nil)) (de_v 1)))
    (dss_cons (ds_asg (de_op od_fdiv (de_ix (de_v 0) de_int) (de_v 1)) (dg_sub (de_v 0) de_int set_lstD))
    (dss_one (ds_ret (de_v 4))))) dss_nil)
    (dss_cons (ds_asg (de_op (od_add true) (de_ix (de_v 0) de_int) de_int) (dg_sub (de_v 0) de_int set_lstD))
    (dss_cons (ds_set (i := 2) sc__law_take.nd rfl (by first | exact Or.inl rfl | exact Or.inr rfl) (de_ix (de_lst true (da_cons de_int (da_cons de_int (da_cons de_int (da_cons de_int (da_cons de_int da_nil)))))) (de_op od_mod (de_bT cd_int T.m_int (da_cons (de_ix (de_v 0) de_int) da_nil)) de_int)))
    (dss_cons (ds_set (i := 3) sc__law_take.nd rfl (by first | exact Or.inl rfl | exact Or.inr rfl) (de_op od_mod (de_bT cd_int T.m_int (da_cons (de_op od_pows (de_bT cd_int T.m_int (da_cons (de_op (od_add true) (de_op (od_add true) (de_ix (de_v 0) de_int) (de_op (od_mul true) (de_op (od_mul true) de_int (de_ix (de_v 0) de_int)) (de_ix (de_v 0) de_int))) de_int) da_nil)) de_int) da_nil)) (de_v 2)))
    (dss_cons (ds_set (i := 3) sc__law_take.nd rfl (by first | exact Or.inl rfl | exact Or.inr rfl) (de_op od_mod (de_bT cd_int T.m_int (da_cons (de_op (od_mul true) (de_v 3) (de_op (od_add true) (de_op od_mod (de_bT cd_int T.m_int (da_cons (de_v 3) da_nil)) de_int) (de_op (od_mul true) de_int (de_ix (de_v 0) de_int)))) da_nil)) de_int))
    (dss_one (ds_ret (de_op od_mod (de_bT cd_int T.m_int (da_cons (de_op od_fdiv (de_v 3) de_int) da_nil)) (de_v 1)))))))))) read
theorem c__law_of {k : Nat} {TT : TT8} (T : Txt K mg) {sp__law_take : DS1} (c__law_take : Cal1 P w K TT mg base k "_law_take" sp__law_take) {sp : DS1} (read : ∀ ds M Q, sp ds M Q → ds.length = 2 ∧ r__law_of sp__law_take { nx := fun _ M' => Q .non M', rt := Q } (dstart N__law_of ds) M) : Cal1 P w K TT mg base (k + 1) "_law_of" sp :=
  dcal1 T.h__law_of sc__law_of (t := r__law_of sp__law_take) (fun f cdv A outer s H E Y E1 hT hr gu g =>
    (dss_one (ds_ret (de_ix (de_v 1) (de_call1 (c__law_take.on hT) hr gu g.xt (da_cons (de_v 0) (da_cons (de_b cd_len T.m_len (da_cons (de_v 1) da_nil)) da_nil))))))) read
theorem c__law_cells {k : Nat} {TT : TT8} (T : Txt K mg) {sp : DS1} (read : ∀ ds M Q, sp ds M Q → ds.length = 2 ∧ r__law_cells { nx := fun _ M' => Q .non M', rt := Q } (dstart N__law_cells ds) M) : Cal1 P w K TT mg base (k + 1) "_law_cells" sp :=
  dcal1 T.h__law_cells sc__law_cells (t := r__law_cells) (fun f cdv A outer s H E Y E1 hT hr gu g =>
    (dss_one (ds_ret (de_listRg true T.m_list T.m_range (de_b (cd_max2 rfl) T.m_max (da_cons de_int (da_cons (de_b (cd_min2 rfl) T.m_min (da_cons (de_v 1) (da_cons (de_b cd_len T.m_len (da_cons (de_v 0) da_nil)) da_nil))) da_nil))))))) read
theorem c__law_some {k : Nat} {TT : TT8} (T : Txt K mg) {sp__law_take : DS1} (c__law_take : Cal1 P w K TT mg base k "_law_take" sp__law_take) {sp : DS1} (read : ∀ ds M Q, sp ds M Q → ds.length = 3 ∧ r__law_some sp__law_take { nx := fun _ M' => Q .non M', rt := Q } (dstart N__law_some ds) M) : Cal1 P w K TT mg base (k + 1) "_law_some" sp :=
  dcal1 T.h__law_some sc__law_some (t := r__law_some sp__law_take) (fun f cdv A outer s H E Y E1 hT hr gu g =>
    (dss_cons (ds_par (i := 4) (j := 5) rfl sc__law_some.nd rfl rfl (by decide) rfl rfl (da_cons (de_bT (cd_list false) T.m_list (da_cons (de_v 1) da_nil)) (da_cons (de_lst false da_nil) da_nil)))
    (dss_cons (ds_for (passes_of rfl) rfl (di_range1 T.m_range (de_v 2)) (dg_name (i := 3) sc__law_some.nd rfl (by first | exact Or.inl rfl | exact Or.inr rfl)) (dss_one (ds_expr (de_append (de_v 5) (de_popAt (de_v 4) (de_call1 (c__law_take.on hT) hr gu g.xt (da_cons (de_v 0) (da_cons (de_b cd_len T.m_len (da_cons (de_v 4) da_nil)) da_nil))))))))
    (dss_one (ds_ret (de_hold (de_v 5))))))) read
theorem c__law_signs {k : Nat} {TT : TT8} (T : Txt K mg) {sp : DS1} (read : ∀ ds M Q, sp ds M Q → ds.length = 0 ∧ r__law_signs { nx := fun _ M' => Q .non M', rt := Q } (dstart N__law_signs ds) M) : Cal1 P w K TT mg base (k + 1) "_law_signs" sp :=
  dcal1 T.h__law_signs sc__law_signs (t := r__law_signs) (fun f cdv A outer s H E Y E1 hT hr gu g =>
    (dss_one (ds_ret de_str))) read
theorem c__law_few {k : Nat} {TT : TT8} (T : Txt K mg) {sp__law_some : DS1} (c__law_some : Cal1 P w K TT mg base k "_law_some" sp__law_some) {sp__law_of : DS1} (c__law_of : Cal1 P w K TT mg base k "_law_of" sp__law_of) {sp__law_signs : DS1} (c__law_signs : Cal1 P w K TT mg base k "_law_signs" sp__law_signs) {sp : DS1} (read : ∀ ds M Q, sp ds M Q → ds.length = 1 ∧ r__law_few sp__law_some sp__law_of sp__law_signs { nx := fun _ M' => Q .non M', rt := Q } (dstart N__law_few ds) M) : Cal1 P w K TT mg base (k + 1) "_law_few" sp :=
  dcal1 T.h__law_few sc__law_few (t := r__law_few sp__law_some sp__law_of sp__law_signs) (fun f cdv A outer s H E Y E1 hT hr gu g =>
    (dss_one (ds_ret (de_join de_str (de_b (cd_sort true) T.m_sorted (da_cons (de_call1 (c__law_some.on hT) hr gu g.xt (da_cons (de_v 0) (da_cons (de_bT (cd_listS true rfl) T.m_list (da_cons (de_call10 (c__law_signs.on hT) hr gu g.xt) da_nil)) (da_cons (de_call1 (c__law_of.on hT) hr gu g.xt (da_cons (de_v 0) (da_cons (de_lst true (da_cons de_int (da_cons de_int (da_cons de_int da_nil)))) da_nil))) da_nil)))) da_nil)))))) read
theorem c__law_leaf {k : Nat} {TT : TT8} (T : Txt K mg) {sp__law_take : DS1} (c__law_take : Cal1 P w K TT mg base k "_law_take" sp__law_take) {sp__law_of : DS1} (c__law_of : Cal1 P w K TT mg base k "_law_of" sp__law_of) {sp : DS1} (read : ∀ ds M Q, sp ds M Q → ds.length = 2 ∧ r__law_leaf sp__law_take sp__law_of { nx := fun _ M' => Q .non M', rt := Q } (dstart N__law_leaf ds) M) : Cal1 P w K TT mg base (k + 1) "_law_leaf" sp :=
  dcal1 T.h__law_leaf sc__law_leaf (t := r__law_leaf sp__law_take sp__law_of) (fun f cdv A outer s H E Y E1 hT hr gu g =>
    (dss_cons (ds_if (dt_cmp (od_eq hr) (de_call1 (c__law_take.on hT) hr gu g.xt (da_cons (de_v 0) (da_cons de_int da_nil))) de_int (nomark _)) (dss_one (ds_ret (de_tup (da_cons de_str (da_cons (de_join de_str (de_sortSet true T.m_sorted T.m_set (de_lc true (own := [("lap", 2)]) (g := (dgName 2)) (tt := dYes) (te := (dCall1 sp__law_of (dCons (dSlot 0) (dCons (dSlot 1) dNil)))) rfl sc__law_leaf.nd (di_range1 T.m_range (de_op (od_add true) de_int (de_call1 (c__law_take.on hT) hr gu g.xt (da_cons (de_v 0) (da_cons de_int da_nil))))) (blkOk_by (own := [("lap", 2)]) (N := N__law_leaf) (sc := defScope st__law_leaf) (by decide +kernel)) (by decide) (fun _ _ _ _ _ => (dg_name (i := 2) sc__law_leaf.nd rfl (by first | exact Or.inl rfl | exact Or.inr rfl))) (fun _ _ _ _ _ => dts_nil) (fun _ _ _ _ _ => (de_call1 (c__law_of.on hT) hr gu g.xt (da_cons (de_v 0) (da_cons (de_v 1) da_nil))))))) da_nil))))) dss_nil)
    (dss_one (ds_ret (de_tup (da_cons de_str (da_cons (de_join de_str (de_lc true (own := [("lap", 2)]) (g := (dgName 2)) (tt := dYes) (te := (dCall1 sp__law_of (dCons (dSlot 0) (dCons (dSlot 1) dNil)))) rfl sc__law_leaf.nd (di_range1 T.m_range (de_call1 (c__law_of.on hT) hr gu g.xt (da_cons (de_v 0) (da_cons (de_lst true (da_cons de_int (da_cons de_int (da_cons de_int (da_cons de_int (da_cons de_int (da_cons de_int da_nil))))))) da_nil)))) (blkOk_by (own := [("lap", 2)]) (N := N__law_leaf) (sc := defScope st__law_leaf) (by decide +kernel)) (by decide) (fun _ _ _ _ _ => (dg_name (i := 2) sc__law_leaf.nd rfl (by first | exact Or.inl rfl | exact Or.inr rfl))) (fun _ _ _ _ _ => dts_nil) (fun _ _ _ _ _ => (de_call1 (c__law_of.on hT) hr gu g.xt (da_cons (de_v 0) (da_cons (de_v 1) da_nil)))))) da_nil))))))) read
theorem c__law_type_drawn {k : Nat} {TT : TT8} (T : Txt K mg) {sp__law_take : DS1} (c__law_take : Cal1 P w K TT mg base k "_law_take" sp__law_take) {sp__law_leaf : DS1} (c__law_leaf : Cal1 P w K TT mg base k "_law_leaf" sp__law_leaf) {sp__law_type_drawn : DS1} (c__law_type_drawn : Cal1 P w K TT mg base k "_law_type_drawn" sp__law_type_drawn) {sp : DS1} (read : ∀ ds M Q, sp ds M Q → ds.length = 3 ∧ r__law_type_drawn sp__law_take sp__law_leaf sp__law_type_drawn { nx := fun _ M' => Q .non M', rt := Q } (dstart N__law_type_drawn ds) M) : Cal1 P w K TT mg base (k + 1) "_law_type_drawn" sp :=
  dcal1 T.h__law_type_drawn sc__law_type_drawn (t := r__law_type_drawn sp__law_take sp__law_leaf sp__law_type_drawn) (fun f cdv A outer s H E Y E1 hT hr gu g =>
    (dss_cons (ds_set (i := 3) sc__law_type_drawn.nd rfl (by first | exact Or.inl rfl | exact Or.inr rfl) (de_call1 (c__law_take.on hT) hr gu g.xt (da_cons (de_v 0) (da_cons de_int da_nil))))
    (dss_cons (ds_if (dt_w (dw_or (dt_cmp (od_eq hr) (de_v 2) de_int (nomark _)) (dw_or1 (dt_cmp od_lt (de_v 3) de_int (nomark _))))) (dss_one (ds_ret (de_call1 (c__law_leaf.on hT) hr gu g.xt (da_cons (de_v 0) (da_cons (de_v 1) da_nil))))) dss_nil)
    (dss_cons (ds_if (dt_cmp (od_eq hr) (de_v 3) de_int (nomark _)) (dss_one (ds_ret (de_tup (da_cons de_str (da_cons (de_call1 (c__law_type_drawn.on hT) hr gu g.xt (da_cons (de_v 0) (da_cons (de_v 1) (da_cons (de_op od_sub (de_v 2) de_int) da_nil)))) da_nil))))) dss_nil)
    (dss_one (ds_ret (de_tup (da_cons (de_ix (de_lst true (da_cons de_str (da_cons de_str da_nil))) (de_op od_mod (de_v 3) de_int)) (da_cons (de_call1 (c__law_type_drawn.on hT) hr gu g.xt (da_cons (de_v 0) (da_cons (de_v 1) (da_cons (de_op od_sub (de_v 2) de_int) da_nil)))) (da_cons (de_call1 (c__law_type_drawn.on hT) hr gu g.xt (da_cons (de_v 0) (da_cons (de_v 1) (da_cons (de_op od_sub (de_v 2) de_int) da_nil)))) da_nil)))))))))) read
theorem c__law_shown {k : Nat} {TT : TT8} (T : Txt K mg) {sp__law_shown : DS1} (c__law_shown : Cal1 P w K TT mg base k "_law_shown" sp__law_shown) {sp : DS1} (read : ∀ ds M Q, sp ds M Q → ds.length = 1 ∧ r__law_shown sp__law_shown { nx := fun _ M' => Q .non M', rt := Q } (dstart N__law_shown ds) M) : Cal1 P w K TT mg base (k + 1) "_law_shown" sp :=
  dcal1 T.h__law_shown sc__law_shown (t := r__law_shown sp__law_shown) (fun f cdv A outer s H E Y E1 hT hr gu g =>
    (dss_cons (ds_set (i := 1) sc__law_shown.nd rfl (by first | exact Or.inl rfl | exact Or.inr rfl) (de_ix (de_v 0) de_int))
    (dss_cons (ds_if (dt_cmp od_in (de_v 1) (de_tup (da_cons de_str (da_cons de_str da_nil))) (by with_unfolding_all rfl)) (dss_cons (ds_set (i := 2) sc__law_shown.nd rfl (by first | exact Or.inl rfl | exact Or.inr rfl) (de_repC (de_v 0) (by decide)))
    (dss_one (ds_ret (de_if (dt_cmp (od_eq hr) (de_v 1) de_str (nomark _)) (de_op (od_add true) (de_op (od_add true) de_str (de_v 2)) de_str) (de_op (od_add true) (de_op (od_add true) de_str (de_v 2)) de_str))))) dss_nil)
    (dss_cons (ds_if (dt_cmp (od_eq hr) (de_v 1) de_str (nomark _)) (dss_one (ds_ret (de_op (od_add true) (de_call1 (c__law_shown.on hT) hr gu g.xt (da_cons (de_ix (de_v 0) de_int) da_nil)) de_str))) dss_nil)
    (dss_one (ds_ret (de_op (od_add true) (de_op (od_add true) (de_op (od_add true) (de_op (od_add true) de_str (de_call1 (c__law_shown.on hT) hr gu g.xt (da_cons (de_ix (de_v 0) de_int) da_nil))) (de_if (dt_cmp (od_eq hr) (de_v 1) de_str (nomark _)) de_str de_str)) (de_call1 (c__law_shown.on hT) hr gu g.xt (da_cons (de_ix (de_v 0) de_int) da_nil))) de_str))))))) read
theorem c__law_is_read {k : Nat} {TT : TT8} (T : Txt K mg) {CS C_BadType C_NoTypeText : Addr} (XK : Kns K mg CS C_BadType C_NoTypeText) {sp_read_type : DSp} (c_read_type : Cal P w K TT mg base k "read_type" [] sp_read_type) {sp__law_shown : DS1} (c__law_shown : Cal1 P w K TT mg base k "_law_shown" sp__law_shown) {sp_is_type : DS1} (c_is_type : Cal1 P w K TT mg base k "is_type" sp_is_type) {cc PP : Addr} (tb : LamX.TabB base mg cc PP) (inT : (PP, lamQ "_law_is_read") ∈ TT) (onlyT : ∀ p ∈ TT, p.1 = PP → p.2 = lamQ "_law_is_read") (hL : HasL K mg "_law_is_read" st__law_is_read ["text"] cc) {sp : DS1} (read : ∀ ds M Q, sp ds M Q → ds.length = 1 ∧ r__law_is_read sp_read_type sp__law_shown sp_is_type { nx := fun _ M' => Q .non M', rt := Q } (dstart N__law_is_read ds) M) : Cal1 P w K TT mg base (k + 3) "_law_is_read" sp :=
  dcalL hL sc__law_is_read (t := fun _ => r__law_is_read sp_read_type sp__law_shown sp_is_type) (fun f A outer s H E Y E1 hT hr gu g =>
    (dss_cons (ds_asg (de_heard (X := cxOf (L2.CX P w) P w K mg base N__law_is_read "_law_is_read" (defScope st__law_is_read) f (.ref cc) A outer s H E) (Y := Y) (ok := kn) (td := fun E1 => (dCallE sp_read_type (dCons (dSlot 0) dNil) E1)) T.h__law_heard sc__law_heard (give_heard XK.mT) tb rfl (by rw [hT]; exact inT) (by rw [hT]; exact onlyT) XK.sub hr gu g.xt (LamX.lamS_by (sc := defScope st__law_is_read) (by decide +kernel)) (fun A outer s H E f c' Y' E1 hT' hr gu g => (de_callE (c_read_type.on (hT'.trans hT)) hr gu g (da_cons (de_v 0) da_nil)))) (dg_tup rfl (dgs_cons (dg_name (i := 1) sc__law_is_read.nd rfl (by first | exact Or.inl rfl | exact Or.inr rfl)) (dgs_cons (dg_name (i := 2) sc__law_is_read.nd rfl (by first | exact Or.inl rfl | exact Or.inr rfl)) dgs_nil))))
    (dss_cons (ds_if (dt_cmp od_isNot (de_v 1) de_non (nomark _)) (dss_one (ds_ret (de_and (de_isE XK.known XK.sub_NoTypeText T.m_isinstance XK.m_NoTypeText (de_v 1)) (de_one (de_cmp (od_eq hr) (de_b (cd_repr hr gu) T.m_repr (da_cons (de_excV XK.known (de_v 1)) da_nil)) (de_b (cd_repr hr gu) T.m_repr (da_cons (de_v 0) da_nil)) (nomark _)))))) dss_nil)
    (dss_one (ds_ret (de_and (de_call1 ((c_is_type.mono (Nat.le_add_right _ 2)).on hT) hr gu g.xt (da_cons (de_v 2) da_nil)) (de_one (de_cmp (od_eq hr) (de_call1 ((c__law_shown.mono (Nat.le_add_right _ 2)).on hT) hr gu g.xt (da_cons (de_v 2) da_nil)) (de_v 0) (nomark _))))))))) (fun ds M Q E => read ds M Q)
theorem c__law_otherwise {k : Nat} {TT : TT8} (T : Txt K mg) {sp__law_take : DS1} (c__law_take : Cal1 P w K TT mg base k "_law_take" sp__law_take) {sp__law_of : DS1} (c__law_of : Cal1 P w K TT mg base k "_law_of" sp__law_of) {sp : DS1} (read : ∀ ds M Q, sp ds M Q → ds.length = 2 ∧ r__law_otherwise sp__law_take sp__law_of { nx := fun _ M' => Q .non M', rt := Q } (dstart N__law_otherwise ds) M) : Cal1 P w K TT mg base (k + 1) "_law_otherwise" sp :=
  dcal1 T.h__law_otherwise sc__law_otherwise (t := r__law_otherwise sp__law_take sp__law_of) (fun f cdv A outer s H E Y E1 hT hr gu g =>
    (dss_cons (ds_par3 (i := 2) (j := 3) (l := 4) rfl sc__law_otherwise.nd rfl rfl rfl (by decide) (by decide) (by decide) rfl rfl rfl (da_cons (de_call1 (c__law_take.on hT) hr gu g.xt (da_cons (de_v 0) (da_cons (de_op (od_add true) (de_b cd_len T.m_len (da_cons (de_v 1) da_nil)) de_int) da_nil))) (da_cons (de_call1 (c__law_of.on hT) hr gu g.xt (da_cons (de_v 0) (da_cons de_str da_nil))) (da_cons (de_call1 (c__law_take.on hT) hr gu g.xt (da_cons (de_v 0) (da_cons de_int da_nil))) da_nil))))
    (dss_cons (ds_if (dt_cmp (od_eq hr) (de_v 4) de_int (nomark _)) (dss_one (ds_ret (de_op (od_add true) (de_slice true (de_v 1) do_none (do_some (de_v 2))) (de_slice true (de_v 1) (do_some (de_op (od_add true) (de_v 2) de_int)) do_none)))) dss_nil)
    (dss_cons (ds_if (dt_cmp (od_eq hr) (de_v 4) de_int (nomark _)) (dss_one (ds_ret (de_op (od_add true) (de_op (od_add true) (de_slice true (de_v 1) do_none (do_some (de_v 2))) (de_v 3)) (de_slice true (de_v 1) (do_some (de_v 2)) do_none)))) dss_nil)
    (dss_cons (ds_if (dt_cmp (od_eq hr) (de_v 4) de_int (nomark _)) (dss_one (ds_ret (de_op (od_add true) (de_op (od_add true) (de_slice true (de_v 1) do_none (do_some (de_v 2))) (de_v 3)) (de_slice true (de_v 1) (do_some (de_op (od_add true) (de_v 2) de_int)) do_none)))) dss_nil)
    (dss_one (ds_ret (de_op (od_add true) (de_op (od_add true) (de_slice true (de_v 1) do_none (do_some (de_v 2))) (de_revS true (de_slice true (de_v 1) (do_some (de_v 2)) (do_some (de_op (od_add true) (de_v 2) de_int))))) (de_slice true (de_v 1) (do_some (de_op (od_add true) (de_v 2) de_int)) do_none))))))))) read
theorem c__law_hand {k : Nat} {TT : TT8} (T : Txt K mg) {sp : DS1} (read : ∀ ds M Q, sp ds M Q → ds.length = 0 ∧ r__law_hand { nx := fun _ M' => Q .non M', rt := Q } (dstart N__law_hand ds) M) : Cal1 P w K TT mg base (k + 1) "_law_hand" sp :=
  dcal1 T.h__law_hand sc__law_hand (t := r__law_hand) (fun f cdv A outer s H E Y E1 hT hr gu g =>
    (dss_cons (ds_set (i := 0) sc__law_hand.nd rfl (by first | exact Or.inl rfl | exact Or.inr rfl) (de_lst true (da_cons de_str (da_cons de_str (da_cons de_str (da_cons de_str (da_cons de_str (da_cons de_str (da_cons de_str (da_cons de_str (da_cons de_str (da_cons de_str (da_cons de_str (da_cons de_str da_nil))))))))))))))
    (dss_cons (ds_set (i := 0) sc__law_hand.nd rfl (by first | exact Or.inl rfl | exact Or.inr rfl) (de_op (od_add true) (de_v 0) (de_lst true (da_cons de_str (da_cons de_str (da_cons (de_op (od_add true) (de_op (od_add true) de_str (de_op (od_mul true) de_str de_int)) de_str) (da_cons de_str (da_cons de_str (da_cons (de_op (od_add true) de_str (de_op (od_mul true) de_str de_int)) (da_cons (de_op (od_mul true) de_str de_int) (da_cons de_str (da_cons de_str da_nil))))))))))))
    (dss_one (ds_ret (de_op (od_add true) (de_v 0) (de_lst true (da_cons de_str (da_cons de_str da_nil))))))))) read
theorem c__law_right {k : Nat} {TT : TT8} (T : Txt K mg) {CS C_BadType C_NoTypeText : Addr} (XK : Kns K mg CS C_BadType C_NoTypeText) {sp__law_type_drawn : DS1} (c__law_type_drawn : Cal1 P w K TT mg base k "_law_type_drawn" sp__law_type_drawn) {sp__law_few : DS1} (c__law_few : Cal1 P w K TT mg base k "_law_few" sp__law_few) {sp__law_shown : DS1} (c__law_shown : Cal1 P w K TT mg base k "_law_shown" sp__law_shown) {sp_type_text : DSp} (c_type_text : Cal P w K TT mg base k "type_text" [] sp_type_text) {sp_read_type : DSp} (c_read_type : Cal P w K TT mg base k "read_type" [] sp_read_type) {sp__law_otherwise : DS1} (c__law_otherwise : Cal1 P w K TT mg base k "_law_otherwise" sp__law_otherwise) {sp__law_take : DS1} (c__law_take : Cal1 P w K TT mg base k "_law_take" sp__law_take) {sp__law_is_read : DS1} (c__law_is_read : Cal1 P w K TT mg base k "_law_is_read" sp__law_is_read) {sp__law_of : DS1} (c__law_of : Cal1 P w K TT mg base k "_law_of" sp__law_of) {cc PP : Addr} (tb : LamX.TabB base mg cc PP) (inT : (PP, lamQ "_law_right") ∈ TT) (onlyT : ∀ p ∈ TT, p.1 = PP → p.2 = lamQ "_law_right") (hL : HasL K mg "_law_right" st__law_right ["pot"] cc) {sp : DS1} (read : ∀ ds M Q, sp ds M Q → ds.length = 1 ∧ r__law_right sp__law_type_drawn sp__law_few sp__law_shown sp_type_text sp_read_type sp__law_otherwise sp__law_take sp__law_is_read sp__law_of { nx := fun _ M' => Q .non M', rt := Q } (dstart N__law_right ds) M) : Cal1 P w K TT mg base (k + 3) "_law_right" sp :=
  dcalL hL sc__law_right (t := fun _ => r__law_right sp__law_type_drawn sp__law_few sp__law_shown sp_type_text sp_read_type sp__law_otherwise sp__law_take sp__law_is_read sp__law_of) (fun f A outer s H E Y E1 hT hr gu g =>
    (dss_cons (ds_set (i := 1) sc__law_right.nd rfl (by first | exact Or.inl rfl | exact Or.inr rfl) (de_call1 ((c__law_type_drawn.mono (Nat.le_add_right _ 2)).on hT) hr gu g.xt (da_cons (de_v 0) (da_cons (de_call1 ((c__law_few.mono (Nat.le_add_right _ 2)).on hT) hr gu g.xt (da_cons (de_v 0) da_nil)) (da_cons de_int da_nil)))))
    (dss_cons (ds_set (i := 2) sc__law_right.nd rfl (by first | exact Or.inl rfl | exact Or.inr rfl) (de_call1 ((c__law_shown.mono (Nat.le_add_right _ 2)).on hT) hr gu g.xt (da_cons (de_v 1) da_nil)))
    (dss_cons (ds_if (dt_w (dw_or (dt_cmp (od_ne hr) (de_callE ((c_type_text.mono (Nat.le_add_right _ 2)).on hT) hr gu g.xt.none (da_cons (de_v 1) da_nil)) (de_v 2) (nomark _)) (dw_or1 (dt_cmp (od_ne hr) (de_b (cd_repr hr gu) T.m_repr (da_cons (de_callE ((c_read_type.mono (Nat.le_add_right _ 2)).on hT) hr gu g.xt.none (da_cons (de_v 2) da_nil)) da_nil)) (de_b (cd_repr hr gu) T.m_repr (da_cons (de_v 1) da_nil)) (nomark _))))) (dss_one (ds_ret de_bl)) dss_nil)
    (dss_cons (ds_for (passes_of rfl) rfl (di_range1 T.m_range de_int) (dg_name (i := 3) sc__law_right.nd rfl (by first | exact Or.inl rfl | exact Or.inr rfl)) (dss_cons (ds_set (i := 6) sc__law_right.nd rfl (by first | exact Or.inl rfl | exact Or.inr rfl) (de_call1 ((c__law_otherwise.mono (Nat.le_add_right _ 2)).on hT) hr gu g.xt (da_cons (de_v 0) (da_cons (de_v 2) da_nil))))
    (dss_cons (ds_set (i := 6) sc__law_right.nd rfl (by first | exact Or.inl rfl | exact Or.inr rfl) (de_if (dt_cmp (od_eq hr) (de_call1 ((c__law_take.mono (Nat.le_add_right _ 2)).on hT) hr gu g.xt (da_cons (de_v 0) (da_cons de_int da_nil))) de_int (nomark _)) (de_call1 ((c__law_otherwise.mono (Nat.le_add_right _ 2)).on hT) hr gu g.xt (da_cons (de_v 0) (da_cons (de_v 6) da_nil))) (de_v 6)))
    (dss_one (ds_if (dt_not (dt_val (de_call1 ((c__law_is_read.mono (Nat.le_add_right _ 2)).on hT) hr gu g.xt (da_cons (de_v 6) da_nil)))) (dss_one (ds_ret de_bl)) dss_nil)))))
    (dss_cons (ds_set (i := 4) sc__law_right.nd rfl (by first | exact Or.inl rfl | exact Or.inr rfl) (de_call1 ((c__law_of.mono (Nat.le_add_right _ 2)).on hT) hr gu g.xt (da_cons (de_v 0) (da_cons (de_lst true (da_cons de_non (da_cons de_int (da_cons (de_lst true (da_cons de_str da_nil)) (da_cons (de_tup (da_cons de_str (da_cons de_str da_nil))) (da_cons de_bl (da_cons (de_tup (da_cons de_str (da_cons de_int da_nil))) da_nil))))))) da_nil))))
    (dss_cons (ds_set (i := 5) sc__law_right.nd rfl (by first | exact Or.inl rfl | exact Or.inr rfl) (de_ix (de_heard (X := cxOf (L2.CX P w) P w K mg base N__law_right "_law_right" (defScope st__law_right) f (.ref cc) A outer s H E) (Y := Y) (ok := kn) (td := fun E1 => (dCallE sp_read_type (dCons (dSlot 4) dNil) E1)) T.h__law_heard sc__law_heard (give_heard XK.mT) tb rfl (by rw [hT]; exact inT) (by rw [hT]; exact onlyT) XK.sub hr gu g.xt (LamX.lamS_by (sc := defScope st__law_right) (by decide +kernel)) (fun A outer s H E f c' Y' E1 hT' hr gu g => (de_callE (c_read_type.on (hT'.trans hT)) hr gu g (da_cons (de_v 4) da_nil)))) de_int))
    (dss_cons (ds_if (dt_w (dw_or (dt_not (dt_val (de_isE XK.known XK.sub_NoTypeText T.m_isinstance XK.m_NoTypeText (de_v 5)))) (dw_or1 (dt_cmp (od_ne hr) (de_b (cd_repr hr gu) T.m_repr (da_cons (de_excV XK.known (de_v 5)) da_nil)) (de_b (cd_repr hr gu) T.m_repr (da_cons (de_v 4) da_nil)) (nomark _))))) (dss_one (ds_ret de_bl)) dss_nil)
    (dss_cons (ds_set (i := 4) sc__law_right.nd rfl (by first | exact Or.inl rfl | exact Or.inr rfl) (de_lst true (da_cons de_non (da_cons (de_v 2) (da_cons (de_bT (cd_list true) T.m_list (da_cons (de_v 1) da_nil)) (da_cons (de_tup (da_cons de_str (da_cons de_str da_nil))) (da_cons (de_tup (da_cons de_str (da_cons de_str da_nil))) (da_cons (de_tup (da_cons de_str (da_cons (de_v 1) (da_cons (de_v 1) da_nil)))) (da_cons (de_tup (da_cons de_str (da_cons (de_op (od_mul true) de_str de_int) da_nil))) da_nil)))))))))
    (dss_cons (ds_set (i := 4) sc__law_right.nd rfl (by first | exact Or.inl rfl | exact Or.inr rfl) (de_call1 ((c__law_of.mono (Nat.le_add_right _ 2)).on hT) hr gu g.xt (da_cons (de_v 0) (da_cons (de_v 4) da_nil))))
    (dss_cons (ds_set (i := 5) sc__law_right.nd rfl (by first | exact Or.inl rfl | exact Or.inr rfl) (de_ix (de_heard (X := cxOf (L2.CX P w) P w K mg base N__law_right "_law_right" (defScope st__law_right) f (.ref cc) A outer s H E) (Y := Y) (ok := kn) (td := fun E1 => (dCallE sp_type_text (dCons (dSlot 4) dNil) E1)) T.h__law_heard sc__law_heard (give_heard XK.mT) tb rfl (by rw [hT]; exact inT) (by rw [hT]; exact onlyT) XK.sub hr gu g.xt (LamX.lamS_by (sc := defScope st__law_right) (by decide +kernel)) (fun A outer s H E f c' Y' E1 hT' hr gu g => (de_callE (c_type_text.on (hT'.trans hT)) hr gu g (da_cons (de_v 4) da_nil)))) de_int))
    (dss_one (ds_ret (de_and (de_isE XK.known XK.sub_BadType T.m_isinstance XK.m_BadType (de_v 5)) (de_one (de_cmp (od_eq hr) (de_b (cd_repr hr gu) T.m_repr (da_cons (de_excV XK.known (de_v 5)) da_nil)) (de_b (cd_repr hr gu) T.m_repr (da_cons (de_v 4) da_nil)) (nomark _))))))))))))))))) (fun ds M Q E => read ds M Q)
theorem c_law {k : Nat} {TT : TT8} (T : Txt K mg) {CS C_BadType C_NoTypeText : Addr} (XK : Kns K mg CS C_BadType C_NoTypeText) {sp__law_hand : DS1} (c__law_hand : Cal1 P w K TT mg base k "_law_hand" sp__law_hand) {sp_read_type : DSp} (c_read_type : Cal P w K TT mg base k "read_type" [] sp_read_type) {sp__law_cells : DS1} (c__law_cells : Cal1 P w K TT mg base k "_law_cells" sp__law_cells) {sp__law_right : DS1} (c__law_right : Cal1 P w K TT mg base k "_law_right" sp__law_right) {sp__law_pot : DS1} (c__law_pot : Cal1 P w K TT mg base k "_law_pot" sp__law_pot) {cc PP : Addr} (tb : LamX.TabB base mg cc PP) (inT : (PP, lamQ "law") ∈ TT) (onlyT : ∀ p ∈ TT, p.1 = PP → p.2 = lamQ "law") {sp : DS1} {f : Addr} {oc : Value} {od : Option Addr} {dV kV doc pm : Value} {an : Option Addr} {ct : Value} {osl : Array (Option Value)} (lk : K.lookup f = some ⟨oc, od, .func (PySem.W.fnOf "law" "law" (defArgs st_law) (defBody st_law) (defScope st_law) dV kV doc pm an (.ref cc) ct), osl⟩) (hcd : PySem.W.codeIn K (.ref cc) "law" = true) (read : ∀ ds M Q, sp ds M Q → ds.length = 1 ∧ r_law sp__law_hand sp_read_type sp__law_cells sp__law_right sp__law_pot { nx := fun _ M' => Q .non M', rt := Q } (dstart N_law ds) M) : GnOk P w K mg base (L2.CX P w) (k + 3) f (PySem.W.fnOf "law" "law" (defArgs st_law) (defBody st_law) (defScope st_law) dV kV doc pm an (.ref cc) ct) ["script"] (lift K TT (quiet sp)) :=
  dgnL lk hcd sc_law (t := fun _ => r_law sp__law_hand sp_read_type sp__law_cells sp__law_right sp__law_pot) (fun A outer s H E Y E1 hT hr gu g =>
    (dss_cons (ds_for (passes_of rfl) rfl (di_it (de_call10 ((c__law_hand.mono (Nat.le_add_right _ 2)).on hT) hr gu g.xt)) (dg_name (i := 1) sc_law.nd rfl (by first | exact Or.inl rfl | exact Or.inr rfl)) (dss_cons (ds_set (i := 2) sc_law.nd rfl (by first | exact Or.inl rfl | exact Or.inr rfl) (de_ix (de_heard (X := cxOf (L2.CX P w) P w K mg base N_law "law" (defScope st_law) f (.ref cc) A outer s H E) (Y := Y) (ok := kn) (td := fun E1 => (dCallE sp_read_type (dCons (dSlot 1) dNil) E1)) T.h__law_heard sc__law_heard (give_heard XK.mT) tb rfl (by rw [hT]; exact inT) (by rw [hT]; exact onlyT) XK.sub hr gu g.xt (LamX.lamS_by (sc := defScope st_law) (by decide +kernel)) (fun A outer s H E f c' Y' E1 hT' hr gu g => (de_callE (c_read_type.on (hT'.trans hT)) hr gu g (da_cons (de_v 1) da_nil)))) de_int))
    (dss_one (ds_if (dt_not (dt_val (de_isE XK.known XK.sub_NoTypeText T.m_isinstance XK.m_NoTypeText (de_v 2)))) (dss_one (ds_ret de_bl)) dss_nil))))
    (dss_cons (ds_if (dt_cmp (od_ne hr) (de_callE ((c_read_type.mono (Nat.le_add_right _ 2)).on hT) hr gu g.xt.none (da_cons de_str da_nil)) (de_tup (da_cons de_str (da_cons (de_tup (da_cons de_str (da_cons (de_tup (da_cons de_str (da_cons de_str da_nil))) (da_cons (de_tup (da_cons de_str (da_cons de_str da_nil))) da_nil)))) da_nil))) (nomark _)) (dss_one (ds_ret de_bl)) dss_nil)
    (dss_one (ds_ret (de_b (cd_all rfl) T.m_all (da_cons (de_lc true (own := [("place", 3)]) (g := (dgName 3)) (tt := dYes) (te := (dCall1 sp__law_right (dCons (dCall1 sp__law_pot (dCons (dSlot 0) (dCons (dSlot 3) dNil))) dNil))) rfl sc_law.nd (di_it (de_call1 ((c__law_cells.mono (Nat.le_add_right _ 2)).on hT) hr gu g.xt (da_cons (de_v 0) (da_cons de_int da_nil)))) (blkOk_by (own := [("place", 3)]) (N := N_law) (sc := defScope st_law) (by decide +kernel)) (by decide) (fun _ _ _ _ _ => (dg_name (i := 3) sc_law.nd rfl (by first | exact Or.inl rfl | exact Or.inr rfl))) (fun _ _ _ _ _ => dts_nil) (fun _ _ _ _ _ => (de_call1 ((c__law_right.mono (Nat.le_add_right _ 2)).on hT) hr gu g.xt (da_cons (de_call1 ((c__law_pot.mono (Nat.le_add_right _ 2)).on hT) hr gu g.xt (da_cons (de_v 0) (da_cons (de_v 3) da_nil))) da_nil)))) da_nil))))))) (fun ds M Q E => read ds M Q)
end
end K02

set_option maxHeartbeats 4000000
/-! KB1: basics of the laws' readings, of no law's own: bounded data, pots, repr. -/
namespace KB
open PySem PySem.Spec DL
open L2 (atI ixN)
open PyProof.Rows hiding St signs
def sg (c : Nat) : Str := ⟨#[c]⟩
theorem sg_inj {a b : Nat} (h : sg a = sg b) : a = b := by
  have := congrArg (fun s : Str => s.cps.toList) h
  simpa [sg] using this
theorem sgs_of : ∀ {ys : List Str}, (∀ y ∈ ys, ∃ c, y = sg c) → ∃ ms : List Nat, ys = ms.map sg
  | [], _ => ⟨[], rfl⟩
  | y :: ys, h => by
    obtain ⟨c, rfl⟩ := h y List.mem_cons_self
    obtain ⟨ms, rfl⟩ := sgs_of fun z hz => h z (List.mem_cons_of_mem _ hz)
    exact ⟨c :: ms, rfl⟩
theorem app_list (a b : Str) : (a ++ b).cps.toList = a.cps.toList ++ b.cps.toList := by
  show (a.cps ++ b.cps).toList = _
  simp
theorem join_list : ∀ ss : List Str, (Txt.join (Str.ofString "") ss).cps.toList = (ss.map fun s : Str => s.cps.toList).flatten := by
  intro ss
  unfold Txt.join
  rw [StrLaws.glued_eq_join]
  induction ss with
  | nil => rfl
  | cons a r ih =>
    cases r with
    | nil => simp [Str.join]
    | cons b r =>
      have e : (Str.ofString "").cps.toList = [] := by decide
      rw [Str.join, app_list, app_list, ih, e, List.map_cons, List.flatten_cons, List.append_nil]
      · simp
      · simp
theorem flat_sg : ∀ ms : List Nat, ((ms.map sg).map fun s : Str => s.cps.toList).flatten = ms
  | [] => rfl
  | m :: ms => by
    rw [List.map_cons, List.map_cons, List.flatten_cons, flat_sg ms]
    rfl
theorem gl_sg (ms : List Nat) : Txt.join (Str.ofString "") (ms.map sg) = ⟨ms.toArray⟩ := by
  have h := join_list (ms.map sg)
  rw [flat_sg] at h
  generalize Txt.join (Str.ofString "") (ms.map sg) = z at h
  obtain ⟨⟨l⟩⟩ := z
  have : l = ms := h
  rw [this]
def tupB (v : DL.D) (lo hi : Int) : Bool := match v with
  | .tup xs => decide (lo ≤ xs.length) && decide ((xs.length : Int) ≤ hi)
  | _ => false
def plain : DL.D → Bool
  | .ref _ => false
  | .exc _ _ => false
  | .str x => decide (x.cps.size ≤ 100000)
  | _ => true
theorem any_eqV (x : Str) : ∀ ws : List Str, (ws.any ((fun y => L2.eqV (vOf y) (vOf (D.str x))) ∘ D.str)) = decide (x ∈ ws)
  | [] => rfl
  | w :: ws => by
    rw [List.any_cons, any_eqV x ws]
    have : ((fun y => L2.eqV (vOf y) (vOf (D.str x))) ∘ D.str) w = decide (x = w) := by
      show (w == x) = _
      by_cases h : x = w
      · subst h; simp
      · simp [h, Ne.symm h]
    rw [this]
    by_cases h : x = w <;> simp [h]
theorem all_flat (ws : List Str) : (ws.map D.str).all flatD = true := by
  rw [List.all_map]; exact List.all_eq_true.mpr fun _ _ => rfl
/-- x in (a tuple of texts) -/
theorem in_texts {neg : Bool} {x : Str} {ws : List Str} {M : Mp} {Q : DK} (q : Q (.bl (if neg then !decide (x ∈ ws) else decide (x ∈ ws))) M) : DL.rInD neg (.str x) (.tup (ws.map D.str)) M Q := by
  refine ⟨_, rfl, rfl, all_flat ws, ?_⟩
  rw [List.any_map, any_eqV]
  exact q
theorem op_in_texts {neg : Bool} {x : Str} (ws : List Str) {e : DL.D} {t : DTE} {ρ : Rho} {M : Mp} {Q : DK} (he : e = .tup (ws.map D.str)) (ht : ∀ Q' : DK, Q' (.str x) M → t ρ M Q')
    (q : Q (.bl (if neg then !decide (x ∈ ws) else decide (x ∈ ws))) M) : dOp (DL.rInD neg) t (dC e) ρ M Q := by
  subst he
  exact ht _ (in_texts q)
abbrev SIG : Str := "\x0a ,-.0123456789:;=abcdefghijklmnopqrstuvwxyz"
def okSign (c : Nat) : Bool := decide (c ∈ SIG.cps.toList)
theorem small {n : Nat} (h : n ≤ 100000) : n ≤ sizeLine := by rw [sizeLine_eq]; omega
theorem ix0 {x : DL.D} {r : List DL.D} : atI (x :: r) 0 = some x := L2.atI_nat (j := 0) rfl
theorem ix1 {x y : DL.D} {r : List DL.D} : atI (x :: y :: r) 1 = some y := L2.atI_nat (j := 1) rfl
theorem cut1 {α : Type} (l : List α) : DL.cutD l (some 1) none = l.tail := by
  unfold DL.cutD
  rw [show (1 : Int) = ((1 : Nat) : Int) from rfl, HT.sIx_nat, HT.sIx_none]
  cases l with
  | nil => rfl
  | cons a r =>
    have e : min 1 (a :: r).length = 1 := by simp
    rw [e, List.drop_one, List.tail_cons, List.length_cons, Nat.add_sub_cancel]
    exact List.take_length
theorem cutS1 (x : Str) : (L2.cutS x (some 1) none).cps.toList = x.cps.toList.tail := by
  rw [← cut1 x.cps.toList]
  unfold L2.cutS DL.cutD
  rw [Array.length_toList]
  rfl
mutual
/-- plain data of a bounded size -/
def gd : DL.D → Bool
  | .non => true
  | .bl _ => true
  | .int i => decide (i.natAbs.log2 < 1900)
  | .str x => decide (x.cps.size ≤ 100000) && x.cps.toList.all fun c => decide (c < 128)
  | .tup xs => decide (xs.length ≤ 100000) && gdAll xs
  | .lst xs => decide (xs.length ≤ 100000) && gdAll xs
  | _ => false
def gdAll : List DL.D → Bool
  | [] => true
  | x :: xs => gd x && gdAll xs
end
theorem gdAll_iff : ∀ {xs : List DL.D}, gdAll xs = true ↔ ∀ x ∈ xs, gd x = true
  | [] => by simp [gdAll]
  | x :: xs => by simp [gdAll, gdAll_iff (xs := xs)]
theorem gd_tup {xs : List DL.D} : gd (.tup xs) = true ↔ xs.length ≤ 100000 ∧ ∀ x ∈ xs, gd x = true := by
  simp [gd, gdAll_iff]
theorem gd_lst {xs : List DL.D} : gd (.lst xs) = true ↔ xs.length ≤ 100000 ∧ ∀ x ∈ xs, gd x = true := by
  simp [gd, gdAll_iff]
theorem gd_str {x : Str} : gd (.str x) = true ↔ x.cps.size ≤ 100000 ∧ ∀ c ∈ x.cps.toList, c < 128 := by
  rw [gd, Bool.and_eq_true, decide_eq_true_eq, List.all_eq_true]
  simp only [decide_eq_true_eq]
theorem gd_plain {v : DL.D} (h : gd v = true) : plain v = true := by
  cases v <;> first | rfl | (simp [gd] at h; done) | skip
  simp only [plain]
  exact decide_eq_true (gd_str.mp h).1
mutual
def dep : DL.D → Nat
  | .tup xs => depAll xs + 1
  | .lst xs => depAll xs + 1
  | _ => 0
def depAll : List DL.D → Nat
  | [] => 0
  | x :: xs => max (dep x) (depAll xs)
end
theorem depAll_le {n : Nat} : ∀ {xs : List DL.D}, depAll xs ≤ n ↔ ∀ x ∈ xs, dep x ≤ n
  | [] => by simp [depAll]
  | x :: xs => by simp [depAll, Nat.max_le, depAll_le (xs := xs)]
mutual
theorem py_gd : ∀ (v : DL.D), gd v = true → ∃ p, v.py = some p ∧ p.showable = true ∧ p.canLay0 = true ∧ p.depth = dep v
  | .non, _ => ⟨.none, rfl, rfl, rfl, rfl⟩
  | .bl b, _ => ⟨.bool b, rfl, rfl, rfl, rfl⟩
  | .int i, h => by
    have h' : i.natAbs.log2 < 1900 := by simpa [gd] using h
    refine ⟨.int i, rfl, ?_, rfl, rfl⟩
    simp [PyData.showable]; omega
  | .str x, h => by
    refine ⟨.str x, rfl, rfl, ?_, rfl⟩
    have h' := (gd_str.mp h).2
    simp only [PyData.canLay0, PyData.strOk]
    rw [← Array.all_toList]
    exact List.all_eq_true.mpr fun c hc => by
      have := h' c hc
      simp; omega
  | .tup xs, h => by
    obtain ⟨ps, e, h1, h2, h3⟩ := pyAll_gd xs (gd_tup.mp h).2
    exact ⟨.tuple ps, by simp [D.py, e], by simpa [PyData.showable] using h1, by simpa [PyData.canLay0] using h2, by simp [PyData.depth, dep, h3]⟩
  | .lst xs, h => by
    obtain ⟨ps, e, h1, h2, h3⟩ := pyAll_gd xs (gd_lst.mp h).2
    exact ⟨.list ps, by simp [D.py, e], by simpa [PyData.showable] using h1, by simpa [PyData.canLay0] using h2, by simp [PyData.depth, dep, h3]⟩
  | .slst xs, h => by simp [gd] at h
  | .ref a, h => by simp [gd] at h
  | .dct a b, h => by simp [gd] at h
theorem pyAll_gd : ∀ (xs : List DL.D), (∀ x ∈ xs, gd x = true) → ∃ ps, pyAll xs = some ps ∧ PyData.showableAll ps = true ∧ PyData.canLayAll0 ps = true ∧ PyData.depthAll ps = depAll xs
  | [], _ => ⟨[], rfl, rfl, rfl, rfl⟩
  | x :: xs, h => by
    obtain ⟨p, e, h1, h2, h3⟩ := py_gd x (h x List.mem_cons_self)
    obtain ⟨ps, e', g1, g2, g3⟩ := pyAll_gd xs fun y hy => h y (List.mem_cons_of_mem _ hy)
    exact ⟨p :: ps, by simp [pyAll, e, e'], by simp [PyData.showableAll, h1, g1], by simp [PyData.canLayAll0, h2, g2], by simp [PyData.depthAll, depAll, h3, g3]⟩
end

theorem newTr {ds : List DL.D} {M : Mp} {Q : DK} (h : Q (.lst ds) M) : newL true ds M Q := h
theorem ne_nil {M : Mp} {a : Addr} {xs : List DL.D} {Q : DK} (h : M a = some (.lst xs)) (g : ∀ x ∈ xs, gd x = true) (d : depAll xs ≤ 63) (q : Q (.bl (!xs.isEmpty)) M) : rEqD2 true (.ref a) (.lst []) M Q := by
  obtain ⟨ps, e, h1, h2, h3⟩ := pyAll_gd xs g
  refine ⟨.list ps, .list [], ?_, rfl, ?_, by decide, ?_⟩
  · show (match mol (M a) with | some xs => _ | none => none) = _
    rw [h]
    show (match pyAll xs with | some ps => some (PyData.list ps) | none => none) = _
    rw [e]
  · unfold SeqAt.shaped
    simp only [PyData.canLay0, PyData.depth, h2, h3, Bool.true_and, decide_eq_true_eq]
    omega
  · have : PyData.eqv (.list ps) (.list []) = xs.isEmpty := by
      cases xs with
      | nil => simp [pyAll] at e; subst e; rfl
      | cons x xs =>
        simp only [pyAll] at e
        split at e
        · cases e; rfl
        · cases e
    rw [if_pos rfl, this]
    exact q
mutual
def wt : DL.D → Nat
  | .str x => x.cps.size
  | .tup xs => wtAll xs
  | .lst xs => wtAll xs
  | _ => 0
def wtAll : List DL.D → Nat
  | [] => 0
  | x :: xs => wt x + 1 + wtAll xs
end
mutual
theorem bulk_gd : ∀ (v : DL.D) (p : PyData), gd v = true → v.py = some p → p.bulk = wt v ∧ p.leavesShort 1921 = true
  | .non, _, _, h => by cases h; exact ⟨rfl, rfl⟩
  | .bl b, _, _, h => by cases h; exact ⟨rfl, rfl⟩
  | .int i, _, g, h => by
    cases h
    refine ⟨rfl, ?_⟩
    have g' : i.natAbs.log2 < 1900 := by simpa [gd] using g
    exact decide_eq_true (int_text_len_1921 (by omega))
  | .str x, _, g, h => by
    cases h
    refine ⟨rfl, ?_⟩
    exact List.all_eq_true.mpr fun c hc => decide_eq_true (by have := (gd_str.mp g).2 c hc; omega)
  | .tup xs, p, g, h => by
    simp only [D.py] at h
    split at h
    · rename_i ps e
      cases h
      obtain ⟨h1, h2⟩ := bulkAll_gd xs ps (gd_tup.mp g).2 e
      exact ⟨by simpa [PyData.bulk, wt] using h1, by simpa [PyData.leavesShort] using h2⟩
    · cases h
  | .lst xs, p, g, h => by
    simp only [D.py] at h
    split at h
    · rename_i ps e
      cases h
      obtain ⟨h1, h2⟩ := bulkAll_gd xs ps (gd_lst.mp g).2 e
      exact ⟨by simpa [PyData.bulk, wt] using h1, by simpa [PyData.leavesShort] using h2⟩
    · cases h
  | .slst xs, _, g, _ => by simp [gd] at g
  | .ref a, _, g, _ => by simp [gd] at g
  | .dct a b, _, g, _ => by simp [gd] at g
theorem bulkAll_gd : ∀ (xs : List DL.D) (ps : List PyData), (∀ x ∈ xs, gd x = true) → pyAll xs = some ps → PyData.bulkAll ps = wtAll xs ∧ PyData.leavesShortAll 1921 ps = true
  | [], _, _, h => by cases h; exact ⟨rfl, rfl⟩
  | x :: xs, ps, g, h => by
    simp only [pyAll] at h
    split at h
    · rename_i p ps' e e'
      cases h
      obtain ⟨h1, h2⟩ := bulk_gd x p (g x List.mem_cons_self) e
      obtain ⟨g1, g2⟩ := bulkAll_gd xs ps' (fun y hy => g y (List.mem_cons_of_mem _ hy)) e'
      exact ⟨by simp [PyData.bulkAll, wtAll, h1, g1], by simp [PyData.leavesShortAll, h2, g2]⟩
    · cases h
end
theorem pyM_gd {v : DL.D} {M : Mp} {p : PyData} (g : gd v = true) (h : v.py = some p) : pyM M v = some p := by
  cases v <;> first | exact h | (simp [gd] at g)
/-- repr of a value that is not too great -/
theorem repr_gd {v : DL.D} (g : gd v = true) (d : dep v ≤ 60) (wv : wt v ≤ 8000) : ∃ s : Str, ∀ (M : Mp) (Q : DK), Q (.str s) M → rReprD [v] M Q := by
  obtain ⟨p, e, h1, h2, h3⟩ := py_gd v g
  obtain ⟨b, l⟩ := bulk_gd v p g e
  refine ⟨p.shown, fun M Q q => ⟨v, p, rfl, pyM_gd g e, h1, by omega, ?_, q⟩⟩
  have := PyData.shown_le_bulk 1921 (by decide) p l
  rw [b] at this
  have m : (1921 + 2) * wt v ≤ (1921 + 2) * 8000 := Nat.mul_le_mul_left _ wv
  rw [sizeLine_eq]
  omega
theorem repr_op {v : DL.D} {s : Str} (hs : ∀ (M : Mp) (Q : DK), Q (.str s) M → rReprD [v] M Q) {t : DTE} {ρ : Rho} {M : Mp} {Q : DK} (ht : ∀ Q' : DK, Q' v M → t ρ M Q') (q : Q (.str s) M) : dCB rReprD (dCons t dNil) ρ M Q :=
  ht _ (hs M Q q)
theorem ix_ref {M : Mp} {a : Addr} {xs : List DL.D} {i : Int} {d : DL.D} {Q : DK} (h : M a = some (.lst xs)) (e : atI xs i = some d) (q : Q d M) : DL.rIxD (.ref a) (.int i) M Q :=
  ⟨xs, d, by show mol (M a) = _; rw [h]; rfl, e, q⟩
theorem mul_ok {fz : Bool} {i j : Int} {M : Mp} {Q : DK} (hi : i.natAbs < 2 ^ 64) (hj : j.natAbs < 2 ^ 64) (q : Q (.int (i * j)) M) : rMulD fz (.int i) (.int j) M Q := ⟨⟨64, 64, hi, hj, by decide⟩, q⟩
theorem at3_0 {x y z : DL.D} : atI [x, y, z] 0 = some x := L2.atI_nat (j := 0) rfl
theorem at3_1 {x y z : DL.D} : atI [x, y, z] 1 = some y := L2.atI_nat (j := 1) rfl
theorem at3_2 {x y z : DL.D} : atI [x, y, z] 2 = some z := L2.atI_nat (j := 2) rfl
/-- the pot at a: what it holds, drawn from at most c times -/
def Pot (M : Mp) (a : Addr) (c : Nat) : Prop := ∃ own mix cnt : Int, M a = some (.lst [.int own, .int mix, .int cnt]) ∧ 0 ≤ own ∧ 0 ≤ mix ∧ mix < 2305843009213693951 ∧ 0 ≤ cnt ∧ cnt ≤ c
/-- drawn from, nothing else touched -/
def Dr (M : Mp) (a : Addr) (M' : Mp) (c : Nat) : Prop := Pot M' a c ∧ ∀ b, b ≠ a → M' b = M b
theorem Dr.trans {M M1 M2 : Mp} {a : Addr} {c c' : Nat} (h : Dr M a M1 c) (h2 : Dr M1 a M2 c') : Dr M a M2 c' := ⟨h2.1, fun b hb => (h2.2 b hb).trans (h.2 b hb)⟩
theorem Dr.up {M M1 : Mp} {a : Addr} {c c' : Nat} (h : Dr M a M1 c) (hc : c ≤ c') : Dr M a M1 c' := by
  obtain ⟨⟨own, mix, cnt, e, h1, h2, h3, h4, h5⟩, f⟩ := h
  exact ⟨⟨own, mix, cnt, e, h1, h2, h3, h4, by omega⟩, f⟩
theorem Dr.refl {M : Mp} {a : Addr} {c : Nat} (h : Pot M a c) : Dr M a M c := ⟨h, fun _ _ => rfl⟩
theorem Pot.up {M : Mp} {a : Addr} {c c' : Nat} (h : Pot M a c) (hc : c ≤ c') : Pot M a c' := ((Dr.refl h).up hc).1
theorem set0 {x y z v : DL.D} {M : Mp} {a : Addr} (h : M a = some (.lst [x, y, z])) {Q : Mp → Prop} (q : Q (mu M a (.lst [v, y, z]))) : rSetD (.ref a) (.int 0) v M Q :=
  ⟨a, _, 0, 0, rfl, rfl, h, rfl, q⟩
theorem set2 {x y z v : DL.D} {M : Mp} {a : Addr} (h : M a = some (.lst [x, y, z])) {Q : Mp → Prop} (q : Q (mu M a (.lst [x, y, v]))) : rSetD (.ref a) (.int 2) v M Q :=
  ⟨a, _, 2, 2, rfl, rfl, h, rfl, q⟩
theorem primes {m : Int} (h0 : 0 ≤ m) (h5 : m < 5) : ∃ p : Int, atI [D.int 2147483647, .int 2147483629, .int 2147483587, .int 2147483579, .int 2147483563] m = some (.int p) ∧ 0 < p ∧ p < 2147483648 := by
  rcases (show m = 0 ∨ m = 1 ∨ m = 2 ∨ m = 3 ∨ m = 4 by omega) with rfl | rfl | rfl | rfl | rfl
  · exact ⟨_, rfl, by decide, by decide⟩
  · exact ⟨_, rfl, by decide, by decide⟩
  · exact ⟨_, rfl, by decide, by decide⟩
  · exact ⟨_, rfl, by decide, by decide⟩
  · exact ⟨_, rfl, by decide, by decide⟩
theorem sg_sum : ∀ ms : List Nat, ((ms.map sg).map (·.length)).sum = ms.length
  | [] => rfl
  | m :: ms => by
    rw [List.map_cons, List.map_cons, List.sum_cons, sg_sum ms, List.length_cons]
    show 1 + _ = _
    omega
theorem nat_sum (l : List Nat) : ((l.map fun n : Nat => (n : Int)).sum) = (l.sum : Nat) := by
  induction l with
  | nil => rfl
  | cons a l ih => simp [ih]
theorem at_in {α : Type} {xs : List α} {d : Int} (h0 : 0 ≤ d) (h1 : d < xs.length) : ∃ y ∈ xs, atI xs d = some y := by
  obtain ⟨n, rfl⟩ := Int.eq_ofNat_of_zero_le h0
  have hn : n < xs.length := by omega
  exact ⟨xs[n], List.getElem_mem hn, L2.atI_nat (List.getElem?_eq_getElem hn)⟩
theorem Pot.ne {M : Mp} {a b : Addr} {c : Nat} (p : Pot M a c) (h : M b = none) : b ≠ a := by
  obtain ⟨_, _, _, e, _⟩ := p
  intro q
  rw [q, e] at h
  cases h
theorem Pot.at {M M' : Mp} {a : Addr} {c : Nat} (p : Pot M a c) (h : M' a = M a) : Pot M' a c := by
  obtain ⟨own, mix, cnt, e, r⟩ := p
  exact ⟨own, mix, cnt, by rw [h]; exact e, r⟩
theorem sig_small : ∀ c ∈ SIG.cps.toList, c < 128 := by decide +kernel
theorem ok_small {c : Nat} (h : okSign c = true) : c < 128 := sig_small c (of_decide_eq_true h)
/-- a text of few signs -/
def Fs (n : Nat) (x : Str) : Prop := x.cps.size ≤ n ∧ ∀ c ∈ x.cps.toList, okSign c = true
theorem join_sg {ys : List Str} (h : ∀ y ∈ ys, ∃ c, okSign c = true ∧ y = sg c) : Fs ys.length (Txt.join (Str.ofString "") ys) ∧ (Txt.join (Str.ofString "") ys).cps.size = ys.length ∧ (ys.map (·.length)).sum = ys.length := by
  obtain ⟨ms, rfl⟩ := sgs_of (ys := ys) fun y hy => let ⟨c, _, e⟩ := h y hy; ⟨c, e⟩
  rw [gl_sg, sg_sum, List.length_map]
  refine ⟨⟨by simp, fun c hc => ?_⟩, by simp, rfl⟩
  obtain ⟨c', h1, e⟩ := h (sg c) (List.mem_map.mpr ⟨c, by simpa using hc, rfl⟩)
  rw [sg_inj e]; exact h1
def fairB (v : DL.D) : Bool := gd v && decide (dep v ≤ 5) && decide (wt v ≤ 1000)
theorem fairB_iff {v : DL.D} : fairB v = true ↔ gd v = true ∧ dep v ≤ 5 ∧ wt v ≤ 1000 := by
  unfold fairB
  simp only [Bool.and_eq_true, decide_eq_true_eq, and_assoc]
theorem wtAll_append (xs ys : List DL.D) : wtAll (xs ++ ys) = wtAll xs + wtAll ys := by
  induction xs with
  | nil => simp [wtAll]
  | cons x xs ih => simp only [List.cons_append, wtAll, ih]; omega
theorem wtAll_take (xs : List DL.D) (n : Nat) : wtAll (xs.take n) + wtAll (xs.drop n) = wtAll xs := by
  rw [← wtAll_append, List.take_append_drop]
theorem wtAll_len (xs : List DL.D) : xs.length ≤ wtAll xs := by
  induction xs with
  | nil => simp
  | cons x xs ih => simp only [List.length_cons, wtAll]; omega
theorem wtAll_rev (xs : List DL.D) : wtAll xs.reverse = wtAll xs := by
  induction xs with
  | nil => rfl
  | cons x xs ih => rw [List.reverse_cons, wtAll_append, ih]; simp only [wtAll]; omega
theorem wtAll_cut (xs : List DL.D) (lo hi : Option Int) : wtAll (DL.cutD xs lo hi) ≤ wtAll xs := by
  unfold DL.cutD
  have h1 := wtAll_take xs (HT.sIx xs.length 0 lo)
  have h2 := wtAll_take (xs.drop (HT.sIx xs.length 0 lo)) (HT.sIx xs.length xs.length hi - HT.sIx xs.length 0 lo)
  omega
theorem cut_mem {xs : List DL.D} {lo hi : Option Int} {y : DL.D} (h : y ∈ DL.cutD xs lo hi) : y ∈ xs := by
  unfold DL.cutD at h
  exact List.mem_of_mem_drop (List.mem_of_mem_take h)
theorem wt_mem {xs : List DL.D} {y : DL.D} (h : y ∈ xs) : wt y + 1 ≤ wtAll xs := by
  induction xs with
  | nil => cases h
  | cons x xs ih =>
    simp only [wtAll]
    rcases List.mem_cons.mp h with rfl | h
    · omega
    · have := ih h; omega
/-- a tuple of some items of a fair one -/
theorem some_items {xs ys : List DL.D} (g : gd (.tup xs) = true) (w : wtAll xs ≤ 3000) (m : ∀ y ∈ ys, y ∈ xs) (l : wtAll ys ≤ 2 * wtAll xs) : gd (.tup ys) = true ∧ dep (.tup ys) ≤ dep (.tup xs) + 1 ∧ wt (.tup ys) ≤ 2 * wt (.tup xs) + 10 := by
  refine ⟨gd_tup.mpr ⟨by have := wtAll_len ys; omega, fun y hy => (gd_tup.mp g).2 y (m y hy)⟩, ?_, ?_⟩
  · have : depAll ys ≤ depAll xs := depAll_le.mpr fun y hy => depAll_le.mp (Nat.le_refl _) y (m y hy)
    simp only [dep]
    omega
  · simp only [wt]
    omega
theorem cut_to {α : Type} (xs : List α) (k : Nat) : DL.cutD xs none (some (k : Int)) = xs.take k := by
  unfold DL.cutD
  rw [HT.sIx_none, HT.sIx_nat, List.drop_zero, Nat.sub_zero]
  by_cases h : k ≤ xs.length
  · rw [Nat.min_eq_left h]
  · rw [Nat.min_eq_right (by omega), List.take_length, List.take_of_length_le (by omega)]
theorem cut_from {α : Type} (xs : List α) (k : Nat) : DL.cutD xs (some (k : Int)) none = xs.drop k := by
  unfold DL.cutD
  rw [HT.sIx_none, HT.sIx_nat]
  by_cases h : k ≤ xs.length
  · rw [Nat.min_eq_left h]
    exact List.take_of_length_le (by rw [List.length_drop]; omega)
  · rw [Nat.min_eq_right (by omega), Nat.sub_self, List.take_zero, List.drop_of_length_le (by omega)]
theorem ne_unit {M : Mp} {xs : List DL.D} {Q : DK} (g : gd (.tup xs) = true) (d : dep (.tup xs) ≤ 60) (q : Q (.bl (!xs.isEmpty)) M) : rEqD2 true (.tup xs) (.tup []) M Q := by
  obtain ⟨ps, e, h1, h2, h3⟩ := pyAll_gd xs (gd_tup.mp g).2
  refine ⟨.tuple ps, .tuple [], ?_, rfl, ?_, by decide, ?_⟩
  · show (match pyAll xs with | some ps => some (PyData.tuple ps) | none => none) = _
    rw [e]
  · unfold SeqAt.shaped
    simp only [PyData.canLay0, PyData.depth, h2, h3, Bool.true_and, decide_eq_true_eq]
    simp only [dep] at d
    omega
  · have : PyData.eqv (.tuple ps) (.tuple []) = xs.isEmpty := by
      cases xs with
      | nil => simp [pyAll] at e; subst e; rfl
      | cons x xs =>
        simp only [pyAll] at e
        split at e
        · cases e; rfl
        · cases e
    rw [if_pos rfl, this]
    exact q
theorem up_small {x : Str} (h : ∀ c ∈ x.cps.toList, c < 128) : (Txt.upper x).cps.size = x.cps.size ∧ ∀ c ∈ (Txt.upper x).cps.toList, c < 128 := by
  have e : x = SX.S x.cps.toList := by cases x; rfl
  have h2 : x.cps.toList.all (· < 128) = true := List.all_eq_true.mpr fun c hc => decide_eq_true (h c hc)
  rw [e, SX.upper_S h2]
  refine ⟨by simp [SX.S], fun c hc => ?_⟩
  have hc' : c ∈ x.cps.toList.map PyProof.Rows.up1 := hc
  obtain ⟨d, hd, rfl⟩ := List.mem_map.mp hc'
  have := h d hd
  unfold PyProof.Rows.up1
  split <;> omega
theorem gd_app {x y : Str} (gx : gd (.str x) = true) (gy : gd (.str y) = true) (l : x.cps.size + y.cps.size ≤ 100000) : gd (.str (x ++ y)) = true ∧ (x ++ y).cps.size = x.cps.size + y.cps.size := by
  have e : (x ++ y).cps.size = x.cps.size + y.cps.size := by
    rw [← Array.length_toList, app_list, List.length_append, Array.length_toList, Array.length_toList]
  refine ⟨gd_str.mpr ⟨by omega, fun c hc => ?_⟩, e⟩
  rw [app_list] at hc
  exact (List.mem_append.mp hc).elim ((gd_str.mp gx).2 c) ((gd_str.mp gy).2 c)
theorem gd_cut {x : Str} (gx : gd (.str x) = true) (lo hi : Option Int) : gd (.str (L2.cutS x lo hi)) = true ∧ (L2.cutS x lo hi).cps.size ≤ x.cps.size := by
  have l := L2.cutS_length x lo hi
  have l2 : (L2.cutS x lo hi).cps.size ≤ x.cps.size := l
  refine ⟨gd_str.mpr ⟨Nat.le_trans l2 (gd_str.mp gx).1, fun c hc => (gd_str.mp gx).2 c ?_⟩, l2⟩
  unfold L2.cutS at hc
  exact List.mem_of_mem_drop (List.mem_of_mem_take hc)
theorem add_tups {fz : Bool} {xs ys : List DL.D} {M : Mp} {Q : DK} (l : xs.length + ys.length ≤ 100000) (q : Q (.tup (xs ++ ys)) M) : rAddD fz (.tup xs) (.tup ys) M Q := ⟨small l, q⟩
theorem add_strs {fz : Bool} {x y : Str} {M : Mp} {Q : DK} (l : x.cps.size + y.cps.size ≤ 100000) (q : Q (.str (x ++ y)) M) : rAddD fz (.str x) (.str y) M Q := ⟨small l, q⟩
/-- plain, of a depth, of a weight -/
structure Sm (d w : Nat) (v : DL.D) : Prop where
  g : gd v = true
  d : dep v ≤ d
  w : wt v ≤ w
theorem Sm.up {d w d' w' : Nat} {v : DL.D} (h : Sm d w v) (hd : d ≤ d') (hw : w ≤ w') : Sm d' w' v := ⟨h.g, Nat.le_trans h.d hd, Nat.le_trans h.w hw⟩
theorem sm_all {d : Nat} {xs : List DL.D} (h : ∀ x ∈ xs, ∃ w, Sm d w x) (l : xs.length ≤ 100000) : Sm (d + 1) (wtAll xs) (.tup xs) := by
  refine ⟨gd_tup.mpr ⟨l, fun x hx => let ⟨w, s⟩ := h x hx; s.g⟩, ?_, by simp only [wt]; exact Nat.le_refl _⟩
  have : depAll xs ≤ d := depAll_le.mpr fun x hx => let ⟨w, s⟩ := h x hx; s.d
  simp only [dep]
  omega
theorem sm_lst {d : Nat} {xs : List DL.D} (h : ∀ x ∈ xs, ∃ w, Sm d w x) (l : xs.length ≤ 100000) : Sm (d + 1) (wtAll xs) (.lst xs) := by
  obtain ⟨g, d, w⟩ := sm_all h l
  exact ⟨gd_lst.mpr (gd_tup.mp g), d, w⟩
theorem sm_str {x : Str} {w : Nat} (h : x.cps.size ≤ w) (hw : w ≤ 100000) (c : ∀ c ∈ x.cps.toList, c < 128) : Sm 0 w (.str x) :=
  ⟨gd_str.mpr ⟨by omega, c⟩, by simp [dep], by simp only [wt]; exact h⟩
theorem Fs.gd {n : Nat} {x : Str} (h : Fs n x) (hn : n ≤ 100000) : gd (.str x) = true := gd_str.mpr ⟨by have := h.1; omega, fun c hc => ok_small (h.2 c hc)⟩
/-- many Trues -/
theorem trues : ∀ {xs : List DL.D}, (∀ d ∈ xs, d = .bl true) → ∃ bs : List Bool, some xs = some (bs.map D.bl) ∧ bs.all id = true
  | [], _ => ⟨[], rfl, rfl⟩
  | x :: xs, h => by
    obtain ⟨bs, e1, e2⟩ := trues (xs := xs) fun d hd => h d (List.mem_cons_of_mem _ hd)
    refine ⟨true :: bs, ?_, by simpa using e2⟩
    rw [List.map_cons, ← Option.some.inj e1, h x List.mem_cons_self]
def PW : Int := ((10 : Int) ^ (60 : Int).toNat) ^ (5 : Int).toNat
theorem PW_pos : 0 < PW := by decide +kernel
theorem PW_lt : PW < 2 ^ 1000 := by decide +kernel
theorem bits60 : 0 ≤ (5 : Int) ∧ (Builtin.Int.intBits ((10 : Int) ^ (60 : Int).toNat) : Int) * 5 ≤ 2 ^ 27 := by decide +kernel
end KB

set_option maxHeartbeats 4000000
/-! K02b: is_type and what it calls (turned from K01p, K01b). -/
namespace K02
open PySem PySem.Spec DL KB
open L2 (atI ixN)
open PyProof.Rows hiding St signs
def asc : List Nat → Bool
  | a :: b :: r => decide (a < b) && asc (b :: r)
  | _ => true
theorem asc_pw : ∀ {l : List Nat}, asc l = true → l.Pairwise (· < ·)
  | [], _ => .nil
  | [a], _ => by simp
  | a :: b :: r, h => by
    simp only [asc, Bool.and_eq_true, decide_eq_true_eq] at h
    have ih := asc_pw h.2
    refine List.pairwise_cons.mpr ⟨fun x hx => ?_, ih⟩
    rcases List.mem_cons.mp hx with rfl | hx
    · exact h.1
    · exact Nat.lt_trans h.1 ((List.pairwise_cons.mp ih).1 x hx)
theorem pw_uniq : ∀ {l m : List Nat}, l.Pairwise (· < ·) → m.Pairwise (· < ·) → (∀ k, k ∈ l ↔ k ∈ m) → l = m
  | [], [], _, _, _ => rfl
  | [], y :: m, _, _, h => absurd ((h y).mpr List.mem_cons_self) (by simp)
  | x :: l, [], _, _, h => absurd ((h x).mp List.mem_cons_self) (by simp)
  | x :: l, y :: m, hl, hm, h => by
    obtain ⟨l1, l2⟩ := List.pairwise_cons.mp hl
    obtain ⟨m1, m2⟩ := List.pairwise_cons.mp hm
    have e : x = y := by
      rcases List.mem_cons.mp ((h x).mp List.mem_cons_self) with e | q
      · exact e
      · rcases List.mem_cons.mp ((h y).mpr List.mem_cons_self) with e | p
        · exact e.symm
        · have a := l1 y p
          have b := m1 x q
          omega
    subst e
    have ih := pw_uniq l2 m2 fun k => by
      constructor
      · intro hk
        rcases List.mem_cons.mp ((h k).mp (List.mem_cons_of_mem _ hk)) with e | q
        · have := l1 k hk; omega
        · exact q
      · intro hk
        rcases List.mem_cons.mp ((h k).mpr (List.mem_cons_of_mem _ hk)) with e | q
        · have := m1 k hk; omega
        · exact q
    rw [ih]
theorem lt_sg (a b : Nat) : ltCps (sg a).cps.toList (sg b).cps.toList = decide (a < b) := by
  simp [sg, ltCps]
theorem rising_asc : ∀ (p : Nat) (ms : List Nat), risingS (sg p) (ms.map sg) = true → (p :: ms).Nodup → asc (p :: ms) = true
  | _, [], _, _ => rfl
  | p, x :: r, h, nd => by
    rw [List.map_cons, risingS, Bool.and_eq_true, lt_sg] at h
    obtain ⟨n1, n2⟩ := List.nodup_cons.mp nd
    have ne : p ≠ x := fun e => n1 (by rw [e]; exact List.mem_cons_self)
    have lt : p < x := by
      have := h.1
      simp at this
      omega
    simp only [asc, Bool.and_eq_true, decide_eq_true_eq]
    exact ⟨lt, rising_asc x r h.2 n2⟩
theorem sorted_asc {ms : List Nat} (h : sortedS (ms.map sg) = true) (nd : ms.Nodup) : asc ms = true := by
  cases ms with
  | nil => rfl
  | cons p r => exact rising_asc p r h nd
def sp_tuple : DS1 := fun ds M Q => ∃ v lo hi, ds = [v, .int lo, .int hi] ∧ KB.plain v = true ∧ Q (.bl (tupB v lo hi)) M
theorem rd_tuple : ∀ ds M Q, sp_tuple ds M Q → ds.length = 3 ∧ r_is_tuple { nx := fun _ M' => Q .non M', rt := Q } (dstart N_is_tuple ds) M := by
  rintro _ M Q ⟨v, lo, hi, rfl, pv, q⟩
  refine ⟨rfl, ?_⟩
  cases v
  case tup xs =>
    by_cases h : lo ≤ (xs.length : Int) <;> simp [tupB, h] at q <;> simp [dstart, dRet, dAndV, dOrV, dNotV, dIsi, dSlot, tyD, isiB, dChain, rInt, dCB, DL.rLen, dCons, dNil, seqOf, lstOf, lstIn, mol, dSeq, dIfS, dAsg, dgName, dgTup, dgCons, dgNil, dPar, dC, dB, dNotT, dAndT, dOrT, dOp, rEqD2, DL.rLtD, DL.rInD, DL.rIxD, dCall1, dIf, dTup, dLst, dNext, dDrop, r_is_tuple] <;> simp [h, q]
  all_goals first | (simp [KB.plain] at pv; done) | (simp [tupB] at q; simp [dstart, dRet, dAndV, dOrV, dNotV, dIsi, dSlot, tyD, isiB, dChain, rInt, dCB, DL.rLen, dCons, dNil, seqOf, lstOf, lstIn, mol, dSeq, dIfS, dAsg, dgName, dgTup, dgCons, dgNil, dPar, dC, dB, dNotT, dAndT, dOrT, dOp, rEqD2, DL.rLtD, DL.rInD, DL.rIxD, dCall1, dIf, dTup, dLst, dNext, dDrop, r_is_tuple]; exact q)
/-- is_word(value, words): a flat value, texts -/
def inTx (v : DL.D) (ws : List Str) : Bool := match v with
  | .str x => decide (x ∈ ws)
  | _ => false
def sp_word : DS1 := fun ds M Q => ∃ v ws, ds = [v, .tup (ws.map D.str)] ∧ KB.plain v = true ∧ Q (.bl (inTx v ws)) M
theorem rd_word : ∀ ds M Q, sp_word ds M Q → ds.length = 2 ∧ r_is_word { nx := fun _ M' => Q .non M', rt := Q } (dstart N_is_word ds) M := by
  rintro _ M Q ⟨v, ws, rfl, pv, q⟩
  refine ⟨rfl, ?_⟩
  cases v
  case str x =>
    refine ⟨_, rfl, _, rfl, true, rfl, ?_⟩
    exact ⟨_, rfl, _, rfl, in_texts q⟩
  all_goals first | (simp [KB.plain] at pv; done) | (simp [inTx] at q; simp [dstart, dRet, dAndV, dOrV, dNotV, dIsi, dSlot, tyD, isiB, dChain, rInt, dCB, DL.rLen, dCons, dNil, seqOf, lstOf, lstIn, mol, dSeq, dIfS, dAsg, dgName, dgTup, dgCons, dgNil, dPar, dC, dB, dNotT, dAndT, dOrT, dOp, rEqD2, DL.rLtD, DL.rInD, DL.rIxD, dCall1, dIf, dTup, dLst, dNext, dDrop, r_is_word]; exact q)
def textB (v : DL.D) (most : Int) : Bool := match v with
  | .str x => decide ((x.length : Int) ≤ most) && x.cps.toList.all okSign
  | _ => false
def sp_text : DS1 := fun ds M Q => ∃ v most, ds = [v, .int most] ∧ KB.plain v = true ∧ Q (.bl (textB v most)) M
theorem rd_text : ∀ ds M Q, sp_text ds M Q → ds.length = 2 ∧ r_is_text { nx := fun _ M' => Q .non M', rt := Q } (dstart N_is_text ds) M := by
  rintro _ M Q ⟨v, most, rfl, pv, q⟩
  refine ⟨rfl, ?_⟩
  cases v
  case str x =>
    have sz : x.cps.size ≤ 100000 := by simpa [KB.plain] using pv
    refine ⟨_, rfl, _, rfl, true, rfl, ?_⟩
    refine ⟨_, rfl, small sz, _, rfl, _, _, rfl, rfl, trivial, _, rfl, ?_⟩
    by_cases h : (x.length : Int) ≤ most
    · have e : textB (.str x) most = x.cps.toList.all okSign := by simp [textB, h]
      rw [e] at q
      rw [decide_eq_true h]
      refine ⟨_, rfl, ?_⟩
      refine lc_map (fun d => match d with | .str s => .bl (s.cps.toList.all okSign) | _ => .non) (by exact trivial) _ [] ?_ (by unfold DL.signs; simpa using small sz) ?_
      · intro d hd K1 K2 hk
        obtain ⟨c, hc, rfl⟩ := List.mem_map.mp hd
        refine ⟨_, rfl, c, rfl, ?_⟩
        simpa [okSign] using hk
      · refine ⟨_, x.cps.toList.map okSign, rfl, ?_, ?_⟩
        · show some _ = some _
          unfold DL.signs
          rw [List.nil_append, List.map_map, List.map_map]
          refine congrArg some (List.map_congr_left fun c _ => ?_)
          simp
        · rw [List.all_map]; exact q
    · have e : textB (.str x) most = false := by simp [textB, h]
      rw [e] at q
      rw [decide_eq_false h]
      exact q
  all_goals first | (simp [KB.plain] at pv; done) | (simp [textB] at q; simp [dstart, dRet, dAndV, dOrV, dNotV, dIsi, dSlot, tyD, isiB, dChain, rInt, dCB, DL.rLen, dCons, dNil, seqOf, lstOf, lstIn, mol, dSeq, dIfS, dAsg, dgName, dgTup, dgCons, dgNil, dPar, dC, dB, dNotT, dAndT, dOrT, dOp, rEqD2, DL.rLtD, DL.rInD, DL.rIxD, dCall1, dIf, dTup, dLst, dNext, dDrop, r_is_text]; exact q)

def signB (v : DL.D) : Bool := match v with
  | .str x => textB (.str x) 44 && !decide (x = "") && asc x.cps.toList
  | _ => false
def leafB (t : Str) (v : DL.D) : Bool := if t = "text" then textB v 20 else signB v
theorem asc_zip : ∀ l : List Nat, ((l.map fun c => (⟨#[c]⟩ : Str)).zip (l.tail.map fun c => (⟨#[c]⟩ : Str))).all (fun p => decide (p.1.cps.toList < p.2.cps.toList)) = asc l
  | [] => rfl
  | [_] => rfl
  | a :: b :: r => by
    have ih := asc_zip (b :: r)
    have e : (decide ((#[a] : Array Nat).toList < (#[b] : Array Nat).toList)) = decide (a < b) := by
      simp [List.cons_lt_cons_iff]
    rw [List.map_cons, List.tail_cons, List.map_cons, List.zip_cons_cons, List.all_cons]
    show (decide ((#[a] : Array Nat).toList < (#[b] : Array Nat).toList) && _) = (decide (a < b) && asc (b :: r))
    rw [e, ← ih]
    rfl
def sp_leaf : DS1 := fun ds M Q => ∃ t a r, ds = [.tup (.str t :: a :: r)] ∧ KB.plain a = true ∧ Q (.bl (leafB t a)) M
theorem rd_leaf : ∀ ds M Q, sp_leaf ds M Q → ds.length = 1 ∧ r_is_leaf sp_text { nx := fun _ M' => Q .non M', rt := Q } (dstart N_is_leaf ds) M := by
  rintro _ M Q ⟨t, a, r, rfl, pa, q⟩
  refine ⟨rfl, ?_⟩
  refine ⟨_, rfl, _, _, rfl, ix0, ?_⟩
  refine ⟨decide (t = "text"), rfl, ?_⟩
  by_cases ht : t = "text"
  · rw [decide_eq_true ht]
    refine ⟨_, rfl, _, _, rfl, ix1, a, 20, rfl, pa, ?_⟩
    rw [leafB, if_pos ht] at q
    exact q
  · rw [decide_eq_false ht]
    rw [leafB, if_neg ht] at q
    refine ⟨_, rfl, _, _, rfl, ix1, by decide +kernel, a, 44, rfl, pa, ?_⟩
    cases a
    case str x =>
      refine ⟨textB (.str x) 44, rfl, ?_⟩
      have sz : x.cps.size ≤ 100000 := by simpa [KB.plain] using pa
      cases ht : textB (.str x) 44 with
      | false => simp [signB, ht] at q; exact q
      | true =>
        refine ⟨_, rfl, _, _, rfl, ix1, ?_⟩
        refine ⟨decide (x = ""), rfl, ?_⟩
        by_cases he : x = ""
        · rw [decide_eq_true he]
          simp [signB, he] at q
          exact q
        · rw [decide_eq_false he]
          simp [signB, he, ht] at q
          refine ⟨_, rfl, _, _, rfl, ix1, _, rfl, _, _, rfl, ix1, 1, rfl, small sz, _, _, rfl, rfl, ?_⟩
          have lz : (pairs (DL.signs x) (DL.signs (L2.cutS x (some 1) none))).length ≤ sizeLine := by
            unfold pairs DL.signs
            rw [List.length_map, List.length_zip, List.length_map, Array.length_toList]
            exact Nat.le_trans (Nat.min_le_left _ _) (small sz)
          refine lc_map (fun d => match d with | .tup [.str a, .str b] => .bl (decide (a.cps.toList < b.cps.toList)) | _ => .non) (by exact trivial) _ [] ?_ (by simpa using lz) ?_
          · intro d hd K1 K2 hk
            unfold pairs DL.signs at hd
            obtain ⟨p, hp, rfl⟩ := List.mem_map.mp hd
            obtain ⟨h1, h2⟩ := List.of_mem_zip hp
            obtain ⟨c1, _, e1⟩ := List.mem_map.mp h1
            obtain ⟨c2, _, e2⟩ := List.mem_map.mp h2
            obtain ⟨p1, p2⟩ := p
            subst e1 e2
            exact ⟨_, rfl, rfl, _, _, rfl, _, _, rfl, rfl, _, rfl, _, rfl, hk⟩
          · refine ⟨_, ((x.cps.toList.map fun c => (⟨#[c]⟩ : Str)).zip (x.cps.toList.tail.map fun c => (⟨#[c]⟩ : Str))).map (fun p => decide (p.1.cps.toList < p.2.cps.toList)), rfl, ?_, ?_⟩
            · show some _ = some _
              unfold pairs DL.signs
              rw [cutS1, List.nil_append, List.map_map, List.map_map]
              have z : ∀ l m : List Nat, (l.map fun c => D.str ⟨#[c]⟩).zip (m.map fun c => D.str ⟨#[c]⟩) = ((l.map fun c => (⟨#[c]⟩ : Str)).zip (m.map fun c => (⟨#[c]⟩ : Str))).map fun p => (D.str p.1, D.str p.2) := by
                intro l
                induction l with
                | nil => intro m; rfl
                | cons a l ih =>
                  intro m
                  cases m with
                  | nil => rfl
                  | cons b m => simp [ih m]
              rw [z, List.map_map]
              exact congrArg some (List.map_congr_left fun p _ => rfl)
            · rw [List.all_map, show (id ∘ fun p : Str × Str => decide (p.1.cps.toList < p.2.cps.toList)) = fun p => decide (p.1.cps.toList < p.2.cps.toList) from rfl, asc_zip]
              exact q
    all_goals
      refine ⟨_, rfl, ?_⟩
      simp [signB] at q
      exact q

abbrev LV : List Str := ["text", "sign"]
abbrev PR : List Str := ["cat", "or"]
abbrev WD : List Str := ["text", "sign", "cat", "or", "star"]
def nodeB : DL.D → Bool
  | .tup [.str t, a] => if t ∈ LV then leafB t a else decide (t = "star")
  | .tup [.str t, _, _] => decide (t ∈ PR)
  | _ => false
def sp_node : DS1 := fun ds M Q => ∃ v, ds = [v] ∧ gd v = true ∧ Q (.bl (nodeB v)) M
theorem rd_node : ∀ ds M Q, sp_node ds M Q → ds.length = 1 ∧ r_is_node sp_tuple sp_word sp_leaf { nx := fun _ M' => Q .non M', rt := Q } (dstart N_is_node ds) M := by
  rintro _ M Q ⟨v, rfl, gv, q⟩
  refine ⟨rfl, ?_⟩
  refine ⟨_, rfl, v, 2, 3, rfl, gd_plain gv, _, rfl, ?_⟩
  have no : ∀ w : DL.D, tupB w 2 3 = false → nodeB w = false := by
    intro w h
    unfold nodeB
    split <;> first | rfl | (simp [tupB] at h)
  by_cases ht : tupB v 2 3 = true
  case neg =>
    have ht := Bool.eq_false_iff.mpr ht
    rw [ht]
    rw [no v ht] at q
    exact q
  rw [ht]
  cases v <;> first | (simp [tupB] at ht; done) | skip
  rename_i xs
  obtain ⟨gl, ga⟩ := gd_tup.mp gv
  simp only [tupB, Bool.and_eq_true, decide_eq_true_eq] at ht
  cases xs with
  | nil => simp at ht
  | cons x r =>
    have px := gd_plain (ga x List.mem_cons_self)
    refine ⟨_, rfl, _, _, rfl, ix0, x, WD, rfl, px, _, rfl, ?_⟩
    by_cases hw : inTx x WD = true
    case neg =>
      have hw := Bool.eq_false_iff.mpr hw
      rw [hw]
      have : nodeB (.tup (x :: r)) = false := by
        unfold nodeB
        split
        · rename_i t a e
          cases e
          simp [inTx] at hw
          simp [hw]
        · rename_i t a b e
          cases e
          simp [inTx] at hw
          simp [hw]
        · rfl
      rw [this] at q
      exact q
    rw [hw]
    cases x <;> first | (simp [inTx] at hw; done) | skip
    rename_i t
    have ht2 : t ∈ WD := by simpa [inTx] using hw
    clear hw
    refine ⟨_, rfl, _, rfl, ?_⟩
    refine op_in_texts PR rfl (fun Q' h => ⟨_, rfl, _, _, rfl, ix0, h⟩) ?_
    refine ⟨decide (t ∈ PR), rfl, ?_⟩
    have three : ∀ n : Int, n = (if t ∈ PR then 3 else 2) → (dIf (fun _ M1 Q => Q (decide (t ∈ PR)) M1) (dC v_TRIPLE) (dC v_PAIR)) [] M (fun y M2 => y = .int n) := by
      intro n hn
      show (if decide (t ∈ PR) = true then _ else _)
      by_cases h : t ∈ PR <;> simp [h] at hn ⊢ <;> subst hn <;> rfl
    have leaf : ∀ a, r = [a] → t ∈ LV → Q (.bl (leafB t a)) M := by
      rintro a rfl hl
      simpa [nodeB, hl] using q
    rcases r with _ | ⟨a, _ | ⟨b, _ | ⟨c, r⟩⟩⟩
    · simp at ht
    · by_cases hp : t ∈ PR
      · rw [decide_eq_true hp]
        have : nodeB (.tup [.str t, a]) = false := by
          have h2 : t ∉ LV := by
            simp at hp ⊢
            rcases hp with rfl | rfl <;> decide
          have h3 : t ≠ "star" := by
            simp at hp
            rcases hp with rfl | rfl <;> decide
          simp [nodeB, h2, h3]
        rw [this] at q
        exact ⟨true, rfl, q⟩
      · rw [decide_eq_false hp]
        refine ⟨false, rfl, ?_⟩
        show dOp (DL.rInD true) (dOp DL.rIxD (dSlot 0) (dC (.int 0))) (dC v_LEAVES) (dstart N_is_node _) M _
        refine op_in_texts LV rfl (fun Q' h => ⟨_, rfl, _, _, rfl, ix0, h⟩) ?_
        by_cases hl : t ∈ LV
        · simp only [hl, decide_true, Bool.not_true, if_true]
          exact ⟨false, rfl, _, rfl, t, a, [], rfl, gd_plain (ga a (by simp)), leaf a rfl hl⟩
        · simp only [hl, decide_false, Bool.not_false, if_true]
          have h3 : t = "star" := by
            simp at ht2 hp hl
            rcases ht2 with h | h | h | h | h <;> first | exact h | (simp [h] at hl; done) | (simp [h] at hp; done)
          have e : nodeB (.tup [.str t, a]) = true := by
            rw [nodeB, if_neg hl]
            exact decide_eq_true h3
          rw [e] at q
          exact ⟨true, rfl, q⟩
    · by_cases hp : t ∈ PR
      · rw [decide_eq_true hp]
        refine ⟨false, rfl, ?_⟩
        show dOp (DL.rInD true) (dOp DL.rIxD (dSlot 0) (dC (.int 0))) (dC v_LEAVES) (dstart N_is_node _) M _
        refine op_in_texts LV rfl (fun Q' h => ⟨_, rfl, _, _, rfl, ix0, h⟩) ?_
        have h2 : t ∉ LV := by
          simp at hp ⊢
          rcases hp with rfl | rfl <;> decide
        simp only [h2, decide_false, Bool.not_false, if_true]
        refine ⟨true, rfl, ?_⟩
        simpa [nodeB, hp] using q
      · rw [decide_eq_false hp]
        simp only [nodeB, hp, decide_false] at q
        exact ⟨true, rfl, q⟩
    · simp at ht
      omega
def partsB : DL.D → List DL.D
  | .tup (.str t :: r) => if t ∈ LV then [] else r
  | _ => []
def sp_parts : DS1 := fun ds M Q => ∃ t r, ds = [.tup (.str t :: r)] ∧ r.length ≤ 100000 ∧ Q (.tup (partsB (.tup (.str t :: r)))) M
theorem rd_parts : ∀ ds M Q, sp_parts ds M Q → ds.length = 1 ∧ r_parts_of { nx := fun _ M' => Q .non M', rt := Q } (dstart N_parts_of ds) M := by
  rintro _ M Q ⟨t, r, rfl, hz, q⟩
  refine ⟨rfl, ?_⟩
  refine op_in_texts LV rfl (fun Q' h => ⟨_, rfl, _, _, rfl, ix0, h⟩) ?_
  refine ⟨decide (t ∈ LV), rfl, ?_⟩
  by_cases h : t ∈ LV
  · simp only [h, decide_true, if_true]
    refine ⟨Nat.zero_le _, ?_⟩
    simpa [partsB, h] using q
  · simp only [h, decide_false, Bool.false_eq_true, if_false]
    refine ⟨_, rfl, 1, rfl, ?_⟩
    show Q (.tup (DL.cutD (D.str t :: r) (some 1) none)) M
    rw [cut1]
    simpa [partsB, h] using q

/-- the nodes, as the law counts them: to a depth -/
def countT : Nat → DL.D → Nat
  | 0, _ => 1000
  | n + 1, v => if nodeB v = true then 1 + ((partsB v).map (countT n)).sum else 1000
theorem countT_pos : ∀ (n : Nat) (v : DL.D), 1 ≤ countT n v
  | 0, _ => by simp [countT]
  | n + 1, v => by
    unfold countT
    split <;> omega
def pr (p : DL.D × Nat) : DL.D := .tup [p.1, .int p.2]
def need (st : List (DL.D × Nat)) : Nat := (st.map fun p => countT (31 - p.2) p.1).sum
theorem node_shape {v : DL.D} (h : nodeB v = true) : ∃ t r, v = .tup (.str t :: r) ∧ r.length ≤ 2 ∧ 1 ≤ r.length := by
  unfold nodeB at h
  split at h
  · exact ⟨_, _, rfl, by simp, by simp⟩
  · exact ⟨_, _, rfl, by simp, by simp⟩
  · cases h
theorem parts_mem {v x : DL.D} (h : x ∈ partsB v) : ∃ t r, v = .tup (.str t :: r) ∧ x ∈ r := by
  unfold partsB at h
  split at h
  · split at h
    · simp at h
    · exact ⟨_, _, rfl, h⟩
  · simp at h
theorem parts_gd {v x : DL.D} (gv : gd v = true) (h : x ∈ partsB v) : gd x = true ∧ dep x + 1 ≤ dep v := by
  obtain ⟨t, r, rfl, hx⟩ := parts_mem h
  refine ⟨(gd_tup.mp gv).2 x (List.mem_cons_of_mem _ hx), ?_⟩
  have := (depAll_le (n := depAll (.str t :: r))).mp (Nat.le_refl _) x (List.mem_cons_of_mem _ hx)
  simp only [dep]
  omega
def sp_type1 : DS1 := fun ds M Q => ∃ v, ds = [v] ∧ gd v = true ∧ dep v ≤ 62 ∧ ∀ M', SubM M M' → Q (.bl (decide (countT 30 v ≤ 120))) M'
def StOk (st : List (DL.D × Nat)) (k : Nat) : Prop := (∀ p ∈ st, gd p.1 = true ∧ dep p.1 ≤ 62 ∧ p.2 ≤ 31) ∧ st.length ≤ k + 1
theorem sum_append (l m : List Nat) : (l ++ m).sum = l.sum + m.sum := by simp
theorem rd_type : ∀ ds M Q, sp_type1 ds M Q → ds.length = 1 ∧ r_is_type sp_node sp_parts { nx := fun _ M' => Q .non M', rt := Q } (dstart N_is_type ds) M := by
  rintro _ M Q ⟨v, rfl, gv, dv, q⟩
  refine ⟨rfl, ?_⟩
  refine ⟨v, rfl, small (by simp), small (by simp), ?_⟩
  intro a ha
  refine ⟨_, _, rfl, ?_⟩
  refine ⟨fun m ρ M' => ∃ st k x3 x4 x5, ρ = [some v, some (.ref a), some (.int (k : Nat)), x3, x4, x5] ∧ M' = mu M a (.lst (st.map pr)) ∧ k ≤ 120 ∧ m = 121 - k ∧ StOk st k ∧ (countT 30 v ≤ 120 ↔ k + need st ≤ 120),
    ⟨121, [(v, 1)], 0, none, none, none, rfl, rfl, by omega, rfl, ⟨fun p hp => by simp at hp; subst hp; exact ⟨gv, dv, by omega⟩, by simp⟩, by simp [need]⟩, ?_⟩
  rintro m ρ M' ⟨st, k, x3, x4, x5, rfl, rfl, hk, rfl, ⟨ok, len⟩, iff⟩
  have sub : ∀ o, SubM M (mu M a o) := fun o => (SubM.refl M).mu ha o
  refine ⟨.ref a, rfl, Nat.zero_le _, ?_⟩
  refine newTr (ne_nil mu_same ?_ ?_ ?_)
  · intro x hx
    obtain ⟨p, hp, rfl⟩ := List.mem_map.mp hx
    obtain ⟨h1, _, h3⟩ := ok p hp
    refine gd_tup.mpr ⟨by simp, fun y hy => ?_⟩
    simp at hy
    rcases hy with rfl | rfl
    · exact h1
    · have : p.2.log2 ≤ p.2 := Nat.log2_le_self _
      simp [gd]
      omega
  · refine depAll_le.mpr fun x hx => ?_
    obtain ⟨p, hp, rfl⟩ := List.mem_map.mp hx
    have := (ok p hp).2.1
    simp [pr, dep, depAll]
    omega
  refine ⟨_, rfl, ?_⟩
  rcases List.eq_nil_or_concat st with rfl | ⟨st', ⟨node, deep⟩, e0⟩
  · -- nothing waits
    have e : countT 30 v ≤ 120 := by rw [iff]; simp [need]; exact hk
    have q1 := q _ (sub (.lst ([].map pr)))
    rw [decide_eq_true e] at q1
    exact q1
  · rw [List.concat_eq_append] at e0
    subst e0
    have hne : ((st' ++ [(node, deep)]).map pr).isEmpty = false := by simp
    rw [hne]
    obtain ⟨gn, dn, hd⟩ := ok (node, deep) (by simp)
    dsimp only at gn dn hd
    have need1 : need (st' ++ [(node, deep)]) = need st' + countT (31 - deep) node := by unfold need; rw [List.map_append, sum_append]; simp
    have cp := countT_pos (31 - deep) node
    refine ⟨fun ρ' M' => ∃ m', m' < 121 - k ∧ ∃ st k x3 x4 x5, ρ' = [some v, some (.ref a), some (.int (k : Nat)), x3, x4, x5] ∧ M' = mu M a (.lst (st.map pr)) ∧ k ≤ 120 ∧ m' = 121 - k ∧ StOk st k ∧ (countT 30 v ≤ 120 ↔ k + need st ≤ 120), fun ρ' M' h => h, ?_⟩
    have e1 : (st' ++ [(node, deep)]).map pr = st'.map pr ++ [pr (node, deep)] := by simp
    rw [e1]
    refine ⟨.ref a, rfl, by show (mol (mu M a _ a)).isSome = true; rw [mu_same]; rfl, a, _, pr (node, deep), rfl, rfl, mu_same, by simp, ?_⟩
    rw [List.dropLast_concat, mu_mu]
    refine ⟨_, rfl, rfl, _, _, rfl, _, _, rfl, rfl, ?_⟩
    refine ⟨_, rfl, ?_⟩
    -- nodes, deep, is_node
    have out : ¬ (countT 30 v ≤ 120) → ∀ o, Q (.bl false) (mu M a o) := fun h o => by
      have q1 := q _ (sub o)
      rw [decide_eq_false h] at q1
      exact q1
    refine ⟨_, rfl, _, _, rfl, rfl, trivial, _, rfl, ?_⟩
    by_cases h1 : (120 : Int) < (k : Int) + 1
    · rw [decide_eq_true h1]
      exact out (by omega) _
    rw [decide_eq_false h1]
    refine ⟨_, rfl, _, _, rfl, rfl, trivial, _, rfl, ?_⟩
    by_cases h2 : (30 : Int) < (deep : Int)
    · rw [decide_eq_true h2]
      have : countT (31 - deep) node = 1000 := by rw [show 31 - deep = 0 by omega]; rfl
      exact out (by omega) _
    rw [decide_eq_false h2]
    refine ⟨_, rfl, node, rfl, gn, _, rfl, ?_⟩
    obtain ⟨n, hn⟩ : ∃ n, 31 - deep = n + 1 := ⟨30 - deep, by omega⟩
    cases hb : nodeB node with
    | false =>
      have : countT (31 - deep) node = 1000 := by rw [hn]; unfold countT; rw [if_neg (by rw [hb]; decide)]
      exact out (by omega) _
    | true =>
      obtain ⟨t, r, rfl, r2, _⟩ := node_shape hb
      have cnt : countT (31 - deep) (.tup (.str t :: r)) = 1 + ((partsB (.tup (.str t :: r))).map (countT n)).sum := by
        rw [hn]
        show (if nodeB _ = true then _ else _) = _
        rw [if_pos hb]
      have pl : (partsB (.tup (.str t :: r))).length ≤ 2 := by
        show (if t ∈ LV then [] else r).length ≤ 2
        split
        · simp
        · exact r2
      refine ⟨.ref a, rfl, by show (mol (mu M a _ a)).isSome = true; rw [mu_same]; rfl, ?_⟩
      refine ⟨_, rfl, t, r, rfl, by omega, ?_⟩
      refine lc_map (fun d => .tup [d, .int ((deep : Int) + 1)]) trivial _ [] ?_ (small (by simp; omega)) ?_
      · intro x hx K1 K2 hk
        exact ⟨_, rfl, _, rfl, small (by simp), hk⟩
      · refine ⟨a, _, _, _, rfl, rfl, mu_same, rfl, ?_, ?_⟩
        · simp at len ⊢
          exact small (by omega)
        · rw [mu_mu]
          refine ⟨_, ?_, st' ++ (partsB (.tup (.str t :: r))).map fun x => (x, deep + 1), k + 1, _, _, _, rfl, ?_, by omega, rfl, ⟨?_, ?_⟩, ?_⟩
          · omega
          · refine congrArg (fun l => mu M a (.lst l)) ?_
            rw [List.map_append, List.map_map, List.nil_append]
            rfl
          · intro p hp
            rcases List.mem_append.mp hp with z | z
            · exact ok p (by simp [z])
            · obtain ⟨x, hx, rfl⟩ := List.mem_map.mp z
              obtain ⟨g1, g2⟩ := parts_gd gn hx
              dsimp only
              exact ⟨g1, by omega, by omega⟩
          · simp at len ⊢
            omega
          · rw [iff, need1, cnt]
            have : need (st' ++ (partsB (.tup (.str t :: r))).map fun x => (x, deep + 1)) = need st' + ((partsB (.tup (.str t :: r))).map (countT n)).sum := by
              unfold need
              rw [List.map_append, sum_append, List.map_map]
              have : (fun p : DL.D × Nat => countT (31 - p.2) p.1) ∘ (fun x => (x, deep + 1)) = countT n := by
                funext x
                show countT (31 - (deep + 1)) x = _
                rw [show 31 - (deep + 1) = n by omega]
              rw [this]
            rw [this]
            omega
def sp_type : DS1 := fun ds M Q => ∃ v, ds = [v] ∧ gd v = true ∧ dep v ≤ 62 ∧ Q (.bl (decide (countT 30 v ≤ 120))) M
theorem wk_type : ∀ ds M Q, sp_type ds M Q → sp_type1 ds M fun d M1 => ∃ M2, SubM M2 M1 ∧ Q d M2 := by
  rintro _ M Q ⟨v, rfl, g, d, q⟩
  exact ⟨v, rfl, g, d, fun M' s => ⟨M, s, q⟩⟩
end K02

set_option maxHeartbeats 4000000
/-! K02c: the draws (turned from K01c, d, e, j). -/
namespace K02
open PySem PySem.Spec DL KB
open L2 (atI ixN)
open PyProof.Rows hiding St signs
def sp_signs : DS1 := fun ds M Q => ds = [] ∧ Q (.str SIG) M
theorem rd_signs : ∀ ds M Q, sp_signs ds M Q → ds.length = 0 ∧ r__law_signs { nx := fun _ M' => Q .non M', rt := Q } (dstart N__law_signs ds) M := by
  rintro _ M Q ⟨rfl, q⟩
  exact ⟨rfl, q⟩
def sp_take : DS1 := fun ds M Q => ∃ a u c, ds = [.ref a, .int u] ∧ Pot M a c ∧ c ≤ 100000 ∧ 0 < u ∧ u < 1000000 ∧ ∀ d M', 0 ≤ d → d < u → Dr M a M' (c + 1) → Q (.int d) M'
theorem rd_take : ∀ ds M Q, sp_take ds M Q → ds.length = 2 ∧ r__law_take { nx := fun _ M' => Q .non M', rt := Q } (dstart N__law_take ds) M := by
  rintro _ M Q ⟨a, u, c, rfl, ⟨own, mix, cnt, e, h1, h2, h3, h4, h5⟩, hc, hu, hu2, q⟩
  refine ⟨rfl, ?_⟩
  unfold r__law_take
  have hix : ∀ {M : Mp} {a : Addr} {xs : List DL.D} {i : Int} {d : DL.D} {Q : DK}, M a = some (.lst xs) → atI xs i = some d → Q d M → DL.rIxD (.ref a) (.int i) M Q := ix_ref
  have hil : ∀ {M : Mp} {xs : List DL.D} {i : Int} {d : DL.D} {Q : DK}, atI xs i = some d → Q d M → DL.rIxD (.lst xs) (.int i) M Q := fun h q => ⟨_, _, rfl, h, q⟩
  have hmul : ∀ {i j : Int} {M : Mp} {Q : DK}, i.natAbs < 2 ^ 64 → j.natAbs < 2 ^ 64 → Q (.int (i * j)) M → rMulD true (.int i) (.int j) M Q := mul_ok
  have hadd : ∀ {i j : Int} {M : Mp} {Q : DK}, Q (.int (i + j)) M → rAddD true (.int i) (.int j) M Q := fun q => q
  have hint : ∀ {i : Int} {M : Mp} {Q : DK}, Q (.int i) M → rIntD [.int i] M Q := fun q => q
  have hs0 : ∀ {x y z v : DL.D} {M : Mp} {a : Addr}, M a = some (.lst [x, y, z]) → ∀ {Q : Mp → Prop}, Q (mu M a (.lst [v, y, z])) → rSetD (.ref a) (.int 0) v M Q := set0
  have hs2 : ∀ {x y z v : DL.D} {M : Mp} {a : Addr}, M a = some (.lst [x, y, z]) → ∀ {Q : Mp → Prop}, Q (mu M a (.lst [x, y, v])) → rSetD (.ref a) (.int 2) v M Q := set2
  generalize DL.rIxD = R at hix hil ⊢
  generalize rMulD true = Rm at hmul ⊢
  generalize rAddD true = Ra at hadd ⊢
  generalize rIntD = Ri at hint ⊢
  generalize rSetD = Rs at hs0 hs2 ⊢
  refine ⟨_, rfl, hix e at3_0 ⟨_, _, rfl, rfl, trivial, _, rfl, ?_⟩⟩
  by_cases ho : 0 < own
  · rw [decide_eq_true ho]
    refine ⟨_, rfl, hix e at3_0 (hint ⟨_, rfl, _, _, rfl, rfl, hu, ?_⟩)⟩
    refine ⟨_, rfl, hix e at3_0 ⟨_, rfl, _, _, rfl, rfl, ⟨hu, by omega⟩, ?_⟩⟩
    refine ⟨_, rfl, hs0 e ⟨_, rfl, ?_⟩⟩
    refine q _ _ (Int.emod_nonneg _ (by omega)) (Int.emod_lt_of_pos _ hu) ⟨⟨_, mix, cnt, mu_same, Int.ediv_nonneg h1 (by omega), h2, h3, h4, by omega⟩, fun b hb => mu_ne hb⟩
  · rw [decide_eq_false ho]
    refine ⟨_, rfl, hix e at3_2 (hadd ⟨_, rfl, hs2 e ?_⟩)⟩
    have e2 : mu M a (.lst [.int own, .int mix, .int (cnt + 1)]) a = some (.lst [.int own, .int mix, .int (cnt + 1)]) := mu_same
    refine ⟨small (by simp), ?_⟩
    refine ⟨_, rfl, hix e2 at3_2 (hint ⟨_, _, rfl, rfl, (by decide : (0 : Int) < 5), ?_⟩)⟩
    obtain ⟨p, hp, p0, p1⟩ := primes (m := (cnt + 1) % 5) (Int.emod_nonneg _ (by decide)) (Int.emod_lt_of_pos _ (by decide))
    refine hil hp ?_
    have sq : (cnt + 1) * (cnt + 1) ≤ 100001 * 100001 := Int.mul_le_mul (by omega) (by omega) (by omega) (by decide)
    have sq0 : 0 ≤ (cnt + 1) * (cnt + 1) := Int.mul_nonneg (by omega) (by omega)
    have as1 : 98275 * (cnt + 1) * (cnt + 1) = 98275 * ((cnt + 1) * (cnt + 1)) := Int.mul_assoc _ _ _
    refine ⟨_, rfl, hix e2 at3_1 ⟨_, rfl, hix e2 at3_2 (hmul (by decide) (by omega) ⟨_, rfl, hix e2 at3_2 (hmul (by omega) (by omega) (hadd (hadd (hint ?_))))⟩)⟩⟩
    refine ⟨_, _, rfl, rfl, .inl ⟨by decide, by decide, ?_⟩, hint ?_⟩
    · rw [as1]
      omega
    refine ⟨_, rfl, _, _, rfl, rfl, p0, ?_⟩
    have b0 := Int.emod_nonneg ((mix + 98275 * (cnt + 1) * (cnt + 1) + 53) ^ (3 : Int).toNat) (b := p) (by omega)
    have b1 := Int.emod_lt_of_pos ((mix + 98275 * (cnt + 1) * (cnt + 1) + 53) ^ (3 : Int).toNat) p0
    refine ⟨_, rfl, _, rfl, hint ⟨_, _, rfl, rfl, (by decide : (0 : Int) < 10011), ?_⟩⟩
    refine ⟨_, rfl, hix e2 at3_2 (hmul (by decide) (by omega) (hadd (hmul (by omega) ?_ (hint ⟨_, _, rfl, rfl, (by decide : (0 : Int) < 2305843009213693907), ?_⟩))))⟩
    · omega
    · refine ⟨_, rfl, _, _, rfl, rfl, ⟨(by decide : (0 : Int) < 131), (by decide : (131 : Int).natAbs < 2 ^ 64)⟩, hint ⟨_, rfl, _, _, rfl, rfl, hu, ?_⟩⟩
      refine q _ _ (Int.emod_nonneg _ (by omega)) (Int.emod_lt_of_pos _ hu) ⟨⟨own, mix, cnt + 1, mu_same, h1, h2, h3, by omega, by omega⟩, fun b hb => mu_ne hb⟩
def sp_of : DS1 := fun ds M Q => ∃ a o c, ds = [.ref a, o] ∧ Pot M a c ∧ c ≤ 100000 ∧
  ((∃ xs, o = .lst xs ∧ 0 < xs.length ∧ xs.length < 1000000 ∧ ∀ d ∈ xs, ∀ M', Dr M a M' (c + 1) → Q d M') ∨
   ∃ x : Str, o = .str x ∧ 0 < x.cps.size ∧ x.cps.size ≤ 100000 ∧ ∀ ch ∈ x.cps.toList, ∀ M', Dr M a M' (c + 1) → Q (.str (sg ch)) M')
theorem rd_of : ∀ ds M Q, sp_of ds M Q → ds.length = 2 ∧ r__law_of sp_take { nx := fun _ M' => Q .non M', rt := Q } (dstart N__law_of ds) M := by
  rintro _ M Q ⟨a, o, c, rfl, p, hc, h⟩
  refine ⟨rfl, ?_⟩
  rcases h with ⟨xs, rfl, l0, l1, q⟩ | ⟨x, rfl, l0, l1, q⟩
  · refine ⟨_, rfl, _, rfl, _, rfl, xs, rfl, a, _, c, rfl, p, hc, by omega, by omega, fun d M' h0 h1 dr => ?_⟩
    obtain ⟨y, hy, e⟩ := at_in h0 h1
    exact ⟨xs, y, rfl, e, q y hy M' dr⟩
  · have sz : x.length = x.cps.size := rfl
    refine ⟨_, rfl, _, rfl, _, rfl, small l1, a, _, c, rfl, p, hc, by omega, by omega, fun d M' h0 h1 dr => ?_⟩
    obtain ⟨y, hy, e⟩ := at_in (xs := x.cps.toList) h0 (by rw [Array.length_toList]; omega)
    exact ⟨small l1, y, e, q y hy M' dr⟩
theorem erase_map {α β : Type} (f : α → β) : ∀ (l : List α) (k : Nat), (l.map f).eraseIdx k = (l.eraseIdx k).map f
  | [], _ => rfl
  | _ :: _, 0 => rfl
  | x :: l, k + 1 => congrArg (f x :: ·) (erase_map f l k)
def sp_some1 : DS1 := fun ds M Q => ∃ (a : Addr) (xs : List Str) (m c : Nat), ds = [.ref a, .lst (xs.map D.str), .int (m : Nat)] ∧ Pot M a c ∧ c + m ≤ 100000 ∧ m ≤ xs.length ∧ xs.length ≤ 1000 ∧
  ∀ (ys : List Str) M1 M2, ys.length = m → (∀ y ∈ ys, y ∈ xs) → Dr M a M2 (c + m) → SubM M2 M1 → Q (.lst (ys.map D.str)) M1
theorem rd_some : ∀ ds M Q, sp_some1 ds M Q → ds.length = 3 ∧ r__law_some sp_take { nx := fun _ M' => Q .non M', rt := Q } (dstart N__law_some ds) M := by
  rintro _ M Q ⟨a, xs, m, c, rfl, p, hc, hm, hx, q⟩
  refine ⟨rfl, ?_⟩
  refine ⟨_, rfl, _, _, rfl, rfl, ?_⟩
  intro r hr
  refine ⟨small (by simp), ?_⟩
  intro f hf
  have nra := p.ne hr
  have nfr : f ≠ r := by
    intro e
    rw [e, mu_same] at hf
    cases hf
  have hf0 : M f = none := by rw [mu_ne nfr] at hf; exact hf
  have nfa := p.ne hf0
  refine ⟨_, _, rfl, ?_⟩
  refine ⟨_, rfl, (m : Int), rfl, by omega, by omega, ?_⟩
  have lr : (rgD 0 (m : Int).toNat).length = m := by unfold rgD; simp
  refine for_inv (fun n ρ M' => ∃ (x3 : Option DL.D) (rs ys : List Str), ρ = [some (.ref a), some (.lst (xs.map D.str)), some (.int (m : Nat)), x3, some (.ref r), some (.ref f)] ∧ M' r = some (.lst (rs.map D.str)) ∧ M' f = some (.lst (ys.map D.str)) ∧
      Pot M' a (c + n) ∧ (∀ b, b ≠ a → b ≠ r → b ≠ f → M' b = M b) ∧ ys.length = n ∧ rs.length + n = xs.length ∧ (∀ y ∈ ys, y ∈ xs) ∧ (∀ y ∈ rs, y ∈ xs)) (fun _ _ _ _ => trivial) _ 0 _ _ ?_ ?_ ?_
  · refine ⟨none, xs, [], rfl, ?_, mu_same, (p.at ?_), ?_, rfl, by simp, by simp, fun y h => h⟩
    · rw [mu_ne (Ne.symm nfr)]; exact mu_same
    · rw [mu_ne (Ne.symm nfa), mu_ne (Ne.symm nra)]
    · intro b h1 h2 h3
      rw [mu_ne h3, mu_ne h2]
  · rintro x hx2 n ρ M' ⟨x3, rs, ys, rfl, er, ef, p', off, ly, lrs, iy, ir⟩ hn N hN
    have hn' : n < m := by rw [lr] at hn; omega
    have sf : (lstOf M' (D.ref f)).isSome = true := by show (mol (M' f)).isSome = true; rw [ef]; rfl
    have sr : lstOf M' (D.ref r) = some (rs.map D.str) := by show mol (M' r) = _; rw [er]; rfl
    refine ⟨_, rfl, sf, ?_⟩
    refine ⟨_, rfl, by rw [sr]; rfl, ?_⟩
    refine ⟨_, rfl, _, rfl, rs.map D.str, sr, a, _, c + n, rfl, p', by omega, by simp; omega, by simp; omega, fun d M2 h0 h1 dr => ?_⟩
    obtain ⟨k, rfl⟩ := Int.eq_ofNat_of_zero_le h0
    rw [List.length_map] at h1
    have hk : k < rs.length := by omega
    have er2 : M2 r = some (.lst (rs.map D.str)) := by rw [dr.2 r nra]; exact er
    have ef2 : M2 f = some (.lst (ys.map D.str)) := by rw [dr.2 f nfa]; exact ef
    refine ⟨r, rs.map D.str, _, k, .str rs[k], rfl, rfl, er2, ?_, by omega, by omega, ?_, ?_⟩
    · unfold L2.ixN
      rw [if_pos h0, if_pos (by rw [List.length_map]; omega)]
      rfl
    · rw [List.getElem?_map, List.getElem?_eq_getElem hk]; rfl
    · refine ⟨f, .str rs[k], ys.map D.str, rfl, rfl, ?_, ?_, ?_⟩
      · rw [mu_ne nfr]; exact ef2
      · rw [List.length_map]; exact Nat.lt_of_le_of_lt (show ys.length ≤ 1000 by omega) (by rw [sizeLine_eq]; omega)
      · refine hN _ _ ⟨_, rs.eraseIdx k, ys ++ [rs[k]], rfl, ?_, ?_, ?_, ?_, ?_, ?_, ?_, ?_⟩
        · rw [mu_ne (Ne.symm nfr), mu_same, erase_map]
        · rw [mu_same]; simp
        · refine (dr.1.up (by omega)).at ?_
          rw [mu_ne (Ne.symm nfa), mu_ne (Ne.symm nra)]
        · intro b h1 h2 h3
          rw [mu_ne h3, mu_ne h2, dr.2 b h1]; exact off b h1 h2 h3
        · simp [ly]
        · rw [List.length_eraseIdx, if_pos hk]; omega
        · intro y hy
          rcases List.mem_append.mp hy with h | h
          · exact iy y h
          · rw [List.mem_singleton.mp h]; exact ir _ (List.getElem_mem hk)
        · intro y hy; exact ir y (List.mem_of_mem_eraseIdx hy)
  · rintro ρ' M' ⟨x3, rs, ys, rfl, er, ef, p', off, ly, lrs, iy, ir⟩
    rw [lr, Nat.zero_add] at p' ly
    refine ⟨_, rfl, f, ys.map D.str, rfl, ef, ?_⟩
    have mdne : ∀ b, b ≠ f → md M' f b = M' b := fun b h => by unfold md; rw [if_neg h]
    have mdf : md M' f f = none := by unfold md; rw [if_pos rfl]
    refine q ys _ (fun b => if b = r then none else md M' f b) ly iy ⟨p'.at ?_, fun b hb => ?_⟩ fun b o e => ?_
    · show (if a = r then none else md M' f a) = _
      rw [if_neg (Ne.symm nra), mdne a (Ne.symm nfa)]
    · show (if b = r then none else md M' f b) = _
      by_cases h1 : b = r
      · rw [if_pos h1, h1, hr]
      · rw [if_neg h1]
        by_cases h2 : b = f
        · rw [h2, mdf, hf0]
        · rw [mdne b h2]; exact off b hb h1 h2
    · have e' : (if b = r then none else md M' f b) = some o := e
      by_cases h1 : b = r
      · rw [if_pos h1] at e'; cases e'
      · rw [if_neg h1] at e'; exact e'
def sp_some : DS1 := fun ds M Q => ∃ (a : Addr) (xs : List Str) (m c : Nat), ds = [.ref a, .lst (xs.map D.str), .int (m : Nat)] ∧ Pot M a c ∧ c + m ≤ 100000 ∧ m ≤ xs.length ∧ xs.length ≤ 1000 ∧
  ∀ (ys : List Str) M2, ys.length = m → (∀ y ∈ ys, y ∈ xs) → Dr M a M2 (c + m) → Q (.lst (ys.map D.str)) M2
theorem wk_some : ∀ ds M Q, sp_some ds M Q → sp_some1 ds M fun d M1 => ∃ M2, SubM M2 M1 ∧ Q d M2 := by
  rintro _ M Q ⟨a, xs, m, c, rfl, p, hc, hm, hx, q⟩
  exact ⟨a, xs, m, c, rfl, p, hc, hm, hx, fun ys M1 M2 l i d s => ⟨M2, s, q ys M2 l i d⟩⟩
theorem len_pos_sig : SIG.cps.toList.length = 44 := by decide +kernel
def sp_few : DS1 := fun ds M Q => ∃ (a : Addr) (c : Nat), ds = [.ref a] ∧ Pot M a c ∧ c + 4 ≤ 100000 ∧ ∀ (x : Str) M2, 0 < x.cps.size → Fs 3 x → Dr M a M2 (c + 4) → Q (.str x) M2
theorem rd_few : ∀ ds M Q, sp_few ds M Q → ds.length = 1 ∧ r__law_few sp_some sp_of sp_signs { nx := fun _ M' => Q .non M', rt := Q } (dstart N__law_few ds) M := by
  rintro _ M Q ⟨a, c, rfl, p, hc, q⟩
  refine ⟨rfl, ?_⟩
  refine ⟨_, rfl, _, rfl, rfl, SIG, rfl, small (by decide +kernel), ?_⟩
  refine newTr ⟨_, rfl, small (by simp), newTr ?_⟩
  refine ⟨a, _, c, rfl, p, by omega, .inl ⟨_, rfl, by simp, by simp, fun d hd M1 d1 => ?_⟩⟩
  have pool : DL.signs SIG = (SIG.cps.toList.map sg).map D.str := by unfold DL.signs; rw [List.map_map]; rfl
  have poolLen : (SIG.cps.toList.map sg).length = 44 := by rw [List.length_map]; exact len_pos_sig
  have go : ∀ m : Nat, 0 < m → m ≤ 3 → sp_some ([D.ref a, .lst (DL.signs SIG), .int (m : Nat)] ++ []) M1 fun z M2 => DL.dNil (dstart N__law_few [D.ref a]) M2 fun ds M3 => rSortD true (z :: ds) M3 fun y M4 =>
      ∃ ss : List Str, seqOf M4 y = some (ss.map D.str) ∧ (ss.map (·.length)).sum + ss.length * (Str.ofString "").length ≤ 16777216 ∧ Q (.str (Txt.join (Str.ofString "") ss)) M4 := by
    intro m m0 m3
    refine ⟨a, SIG.cps.toList.map sg, m, c + 1, by rw [pool]; rfl, d1.1, by omega, by omega, by omega, fun ys M2 ly iy d2 => ?_⟩
    refine ⟨_, ys, rfl, rfl, by omega, fun zs pm so => newTr ⟨zs, rfl, ?_, ?_⟩⟩
    all_goals
      have hz : ∀ z ∈ zs, ∃ c, okSign c = true ∧ z = sg c := by
        intro z hz
        obtain ⟨c, h1, e⟩ := List.mem_map.mp (iy z (pm.mem_iff.mp hz))
        exact ⟨c, decide_eq_true h1, e.symm⟩
      have lz : zs.length = m := by rw [pm.length_eq, ly]
      obtain ⟨f1, f2, f3⟩ := join_sg hz
    · rw [f3]
      have : (Str.ofString "").length = 0 := rfl
      rw [this]
      omega
    · refine q _ M2 (by omega) ⟨by have := f1.1; omega, f1.2⟩ ((d1.trans d2).up (by omega))
  simp at hd
  rcases hd with rfl | rfl
  · exact go 2 (by omega) (by omega)
  · exact go 3 (by omega) (by omega)
def sp_cells : DS1 := fun ds M Q => ∃ ns : List Int, ds = [.slst (ns.map D.int), .int 3] ∧ ns.length ≤ 100000 ∧ ∀ n : Nat, n ≤ 3 → Q (.lst (rgD 0 n)) M
theorem rd_cells : ∀ ds M Q, sp_cells ds M Q → ds.length = 2 ∧ r__law_cells { nx := fun _ M' => Q .non M', rt := Q } (dstart N__law_cells ds) M := by
  rintro _ M Q ⟨ns, rfl, ln, q⟩
  refine ⟨rfl, ?_⟩
  refine ⟨_, rfl, _, rfl, _, rfl, _, _, rfl, _, _, rfl, _, rfl, ?_, ?_, newTr (q _ ?_)⟩
  all_goals
    rw [List.length_map]
    split <;> split <;> omega
def sp_pot : DS1 := fun ds M Q => ∃ (ns : List Int) (k : Nat), ds = [.slst (ns.map D.int), .int (k : Nat)] ∧ ns.length ≤ 100000 ∧ k ≤ 10 ∧ ∀ a M', M a = none → Pot M' a 0 → Q (.ref a) M'
theorem pot_cell {ns : List Int} {k : Nat} (ln : ns.length ≤ 100000) (hk : k ≤ 10) {M : Mp} (Q : DK) (q : ∀ cell : Int, Q (.int cell) M) :
    dIf (dB (dOp DL.rLtD (dSlot 1) (dCB DL.rLen (dCons (dSlot 0) dNil)))) (dOp DL.rIxD (dSlot 0) (dSlot 1)) (dOp (rAddD true) (dOp (rAddD true) (dOp (rInt (fun _ j => 0 < j) fun i j => .int (i % j)) (dCB rSumD (dCons (dSl true (dSlot 0) dNoPart (dPart (dC (.int 1)))) dNil)) (dC (.int 1000003))) (dOp (rMulD true) (dC (.int 7075)) (dSlot 1))) (dC (.int 3117)))
      [some (.slst (ns.map D.int)), some (.int (k : Nat)), none, none, none] M Q := by
  refine ⟨_, rfl, _, rfl, _, rfl, decide ((k : Int) < ((ns.map D.int).length : Int)), rfl, ?_⟩
  by_cases h : (k : Int) < ((ns.map D.int).length : Int)
  · rw [decide_eq_true h]
    obtain ⟨y, hy, e⟩ := at_in (xs := ns.map D.int) (d := (k : Int)) (by omega) h
    obtain ⟨cell, _, rfl⟩ := List.mem_map.mp hy
    exact ⟨_, rfl, _, rfl, _, _, rfl, e, q cell⟩
  · rw [decide_eq_false h]
    refine ⟨_, rfl, 1, rfl, _, rfl, newTr ⟨_, ns.take 1, rfl, ?_, _, _, rfl, rfl, (by decide : (0 : Int) < 1000003), _, rfl, mul_ok (by decide) (by omega) (q _)⟩⟩
    show some (DL.cutD (ns.map D.int) none (some ((1 : Nat) : Int))) = _
    rw [cut_to, List.map_take]

theorem rd_pot : ∀ ds M Q, sp_pot ds M Q → ds.length = 2 ∧ r__law_pot { nx := fun _ M' => Q .non M', rt := Q } (dstart N__law_pot ds) M := by
  rintro _ M Q ⟨ns, k, rfl, ln, hk, q⟩
  refine ⟨rfl, ?_⟩
  refine pot_cell ln hk _ fun cell => ?_
  have hmul : ∀ {i j : Int} {M : Mp} {Q : DK}, i.natAbs < 2 ^ 64 → j.natAbs < 2 ^ 64 → Q (.int (i * j)) M → rMulD true (.int i) (.int j) M Q := mul_ok
  have hmulW : ∀ {i j : Int} {M : Mp} {Q : DK}, i.natAbs < 2 ^ 1000 → j.natAbs < 2 ^ 64 → Q (.int (i * j)) M → rMulD true (.int i) (.int j) M Q := fun h1 h2 q => ⟨⟨1000, 64, h1, h2, by decide⟩, q⟩
  have hadd : ∀ {i j : Int} {M : Mp} {Q : DK}, Q (.int (i + j)) M → rAddD true (.int i) (.int j) M Q := fun q => q
  have hint : ∀ {i : Int} {M : Mp} {Q : DK}, Q (.int i) M → rIntD [.int i] M Q := fun q => q
  have hbl : ∀ {b : Bool} {M : Mp} {Q : DK}, Q (.int (if b = true then 1 else 0)) M → rIntD [.bl b] M Q := fun q => q
  have habs : ∀ {i : Int} {M : Mp} {Q : DK}, Q (.int (if i < 0 then -i else i)) M → rAbsD [.int i] M Q := fun q => ⟨_, rfl, q⟩
  have hp1 : ∀ {M : Mp} {Q : DK}, Q (.int ((10 : Int) ^ (60 : Int).toNat)) M → rPowD (.int 10) (.int 60) M Q := fun q => ⟨_, _, rfl, rfl, .inl ⟨by decide, by decide, by decide⟩, q⟩
  have hp2 : ∀ {M : Mp} {Q : DK}, Q (.int PW) M → rPowD (.int ((10 : Int) ^ (60 : Int).toNat)) (.int 5) M Q := fun q => ⟨_, _, rfl, rfl, .inr bits60, q⟩
  have hp3 : ∀ {M : Mp} {Q : DK}, Q (.int ((10 : Int) ^ (18 : Int).toNat)) M → rPowD (.int 10) (.int 18) M Q := fun q => ⟨_, _, rfl, rfl, .inl ⟨by decide, by decide, by decide⟩, q⟩
  have own : ∀ b : Bool, 0 ≤ ((if cell < 0 then -cell else cell) % PW) * (if b = true then 1 else 0) := fun b => by
    refine Int.mul_nonneg (Int.emod_nonneg _ (by have := PW_pos; omega)) ?_
    cases b <;> decide
  have own2 : ((if cell < 0 then -cell else cell) % PW).natAbs < 2 ^ 1000 := by
    have h0 := Int.emod_nonneg (if cell < 0 then -cell else cell) (b := PW) (by have := PW_pos; omega)
    have h1 := Int.emod_lt_of_pos (if cell < 0 then -cell else cell) PW_pos
    have h2 := PW_lt
    generalize (if cell < 0 then -cell else cell) % PW = z at h0 h1
    have h3 : z < 2 ^ 1000 := Int.lt_trans h1 h2
    have h4 : ((z.natAbs : Nat) : Int) = z := Int.natAbs_of_nonneg h0
    have h5 : ((z.natAbs : Nat) : Int) < ((2 ^ 1000 : Nat) : Int) := by rw [h4]; exact h3
    exact Int.ofNat_lt.mp h5
  have one : ∀ b : Bool, (if b = true then (1 : Int) else 0).natAbs < 2 ^ 64 := fun b => by cases b <;> decide
  have PWp := PW_pos
  generalize PW = W at hp2 own own2 PWp
  generalize rMulD true = Rm at hmul hmulW ⊢
  generalize rAddD true = Ra at hadd ⊢
  generalize rIntD = Ri at hint hbl ⊢
  generalize rAbsD = Rb at habs ⊢
  generalize rPowD = Rp at hp1 hp2 hp3 ⊢
  refine ⟨_, rfl, habs (hint (hp1 (hp2 ⟨_, _, rfl, rfl, PWp, _, rfl, habs (hp3 ⟨_, _, rfl, rfl, trivial, hbl (hmulW own2 (one _) ?_)⟩)⟩)))⟩
  refine ⟨_, rfl, hint ⟨_, _, rfl, rfl, (by decide : (0 : Int) < 2305843009213693951), ?_⟩⟩
  have s0 := Int.emod_nonneg cell (b := 2305843009213693951) (by decide)
  have s1 := Int.emod_lt_of_pos cell (b := 2305843009213693951) (by decide)
  refine ⟨_, rfl, _, rfl, hmul (by omega) (by decide) ⟨_, rfl, hmul (by decide) (by omega) ⟨_, rfl, hmul (by omega) (by omega) (hadd (hadd (hint ⟨_, _, rfl, rfl, (by decide : (0 : Int) < 2305843009213693921), small (by simp), ?_⟩)))⟩⟩⟩
  intro a ha
  refine q a _ ha ⟨_, _, 0, mu_same, own _, Int.emod_nonneg _ (by decide), ?_, by decide, by decide⟩
  have := Int.emod_lt_of_pos (cell % 2305843009213693951 * 77547 + 8663 * (k : Int) * (k : Int) + 115) (b := 2305843009213693921) (by decide)
  omega
end K02

set_option maxHeartbeats 4000000
/-! K02p: the plain law: types, their texts, the reader; it tells just what was written. -/
namespace K02
open PySem PySem.Spec DL KB
open PyProof.Rows hiding St signs

inductive Ty where
  | leaf (s : Bool) (x : List Nat)
  | star (t : Ty)
  | pair (o : Bool) (a b : Ty)
def wd (s : Bool) : Str := if s then "sign" else "text"
def pw (o : Bool) : Str := if o then "or" else "cat"
abbrev S (l : List Nat) : Str := ⟨l.toArray⟩
def Ty.d : Ty → DL.D
  | .leaf s x => .tup [.str (wd s), .str (S x)]
  | .star t => .tup [.str "star", t.d]
  | .pair o a b => .tup [.str (pw o), a.d, b.d]
def oD : Option Ty → DL.D
  | none => .non
  | some t => t.d
def swp (x : List Nat) : List Nat := x.map fun c => if c = 10 then 47 else c
def bck (x : List Nat) : List Nat := x.map fun c => if c = 47 then 10 else c
def opn (s : Bool) : Nat := if s then 91 else 39
def cls (s : Bool) : Nat := if s then 93 else 39
def sep (o : Bool) : Nat := if o then 124 else 32
def Ty.sh : Ty → List Nat
  | .leaf s x => opn s :: (swp x ++ [cls s])
  | .star t => t.sh ++ [42]
  | .pair o a b => 40 :: (a.sh ++ sep o :: (b.sh ++ [41]))
def lfB (s : Bool) (x : List Nat) : Bool := leafB (wd s) (.str (S x))
def Ty.ok : Ty → Bool
  | .leaf s x => lfB s x
  | .star t => t.ok
  | .pair _ a b => a.ok && b.ok
/-- how deep the words stand within one another -/
def Ty.hi : Ty → Nat
  | .leaf _ _ => 1
  | .star t => t.hi + 1
  | .pair _ a b => max a.hi b.hi + 1
def Ty.nodes : Ty → Nat
  | .leaf _ _ => 1
  | .star t => t.nodes + 1
  | .pair _ a b => a.nodes + b.nodes + 1
/-! ### leaves -/
theorem ok_sign {c : Nat} (h : okSign c = true) : c ≠ 47 ∧ c ≠ 39 ∧ c ≠ 93 := by
  refine ⟨?_, ?_, ?_⟩ <;> (rintro rfl; revert h; decide +kernel)
theorem text_ok {x : List Nat} {m : Int} (h : textB (.str (S x)) m = true) : (x.length : Int) ≤ m ∧ ∀ c ∈ x, okSign c = true := by
  unfold textB at h
  simp only [Bool.and_eq_true, decide_eq_true_eq, List.all_eq_true] at h
  exact ⟨by simpa [Str.length] using h.1, fun c hc => h.2 c (by simpa using hc)⟩
theorem lf_ok {s : Bool} {x : List Nat} (h : lfB s x = true) : x.length ≤ 44 ∧ ∀ c ∈ x, okSign c = true := by
  cases s with
  | false =>
    have h' : textB (.str (S x)) 20 = true := by
      unfold lfB leafB at h
      rw [if_pos (by rfl)] at h
      exact h
    obtain ⟨a, b⟩ := text_ok h'
    exact ⟨by omega, b⟩
  | true =>
    have h' : signB (.str (S x)) = true := by
      unfold lfB leafB at h
      rw [if_neg (by decide)] at h
      exact h
    unfold signB at h'
    simp only [Bool.and_eq_true] at h'
    obtain ⟨a, b⟩ := text_ok h'.1.1
    exact ⟨by omega, b⟩
theorem swp_len (x : List Nat) : (swp x).length = x.length := by simp [swp]
theorem bck_swp {x : List Nat} (h : ∀ c ∈ x, c ≠ 47) : bck (swp x) = x := by
  unfold bck swp
  rw [List.map_map]
  conv => rhs; rw [← List.map_id x]
  refine List.map_congr_left fun c hc => ?_
  have := h c hc
  show (if (if c = 10 then 47 else c) = 47 then 10 else (if c = 10 then 47 else c)) = c
  by_cases e : c = 10
  · rw [if_pos e, if_pos rfl, e]
  · rw [if_neg e, if_neg this]
theorem swp_bck {x : List Nat} (h : ∀ c ∈ x, c ≠ 10) : swp (bck x) = x := by
  unfold bck swp
  rw [List.map_map]
  conv => rhs; rw [← List.map_id x]
  refine List.map_congr_left fun c hc => ?_
  have := h c hc
  show (if (if c = 47 then 10 else c) = 10 then 47 else (if c = 47 then 10 else c)) = c
  by_cases e : c = 47
  · rw [if_pos e, if_pos rfl, e]
  · rw [if_neg e, if_neg this]
theorem swp_mem {x : List Nat} {c : Nat} (h : c ∈ swp x) : c ≠ 10 ∧ (c = 47 ∨ c ∈ x) := by
  unfold swp at h
  obtain ⟨a, ha, rfl⟩ := List.mem_map.mp h
  by_cases e : a = 10
  · rw [if_pos e]; exact ⟨by decide, .inl rfl⟩
  · rw [if_neg e]; exact ⟨e, .inr ha⟩
/-! ### the reader -/
def nx (L : List Nat) (p c : Nat) : Bool := decide (L[p]? = some c)
def runTo (L : List Nat) (p c : Nat) : Nat := p + ((L.drop p).takeWhile (· != c)).length
def rowOf (L : List Nat) (p c : Nat) : List Nat := (L.drop p).takeWhile (· != c)
def rowP (L : List Nat) (c p : Nat) : Option (List Nat) × Nat :=
  if nx L (runTo L p c) c then (if (rowOf L p c).contains 10 then none else some (bck (rowOf L p c)), runTo L p c + 1) else (none, runTo L p c)
def leafP (L : List Nat) (s : Bool) (p : Nat) : Option Ty × Nat :=
  match rowP L (cls s) p with
  | (none, q) => (none, q)
  | (some x, q) => (if lfB s x then some (.leaf s x) else none, q)
def one (b : Bool) : Nat := if b then 1 else 0
def restP (nd : Nat → Int → Option Ty × Nat × Int) (L : List Nat) (o : Option Ty) (b b' : Bool) (p3 : Nat) (d1 : Int) : Option Ty × Nat × Int :=
  match o with
  | none => (none, p3, d1)
  | some a => if b || b' then
      match (nd p3 d1).1 with
      | none => (none, (nd p3 d1).2.1, (nd p3 d1).2.2)
      | some t => if nx L (nd p3 d1).2.1 41 then (some (.pair b' a t), (nd p3 d1).2.1 + 1, (nd p3 d1).2.2) else (none, (nd p3 d1).2.1, (nd p3 d1).2.2)
    else (none, p3, d1)
def coupleP (nd : Nat → Int → Option Ty × Nat × Int) (L : List Nat) (p : Nat) (d : Int) : Option Ty × Nat × Int :=
  restP nd L (nd p d).1 (nx L (nd p d).2.1 32) (!nx L (nd p d).2.1 32 && nx L ((nd p d).2.1 + one (nx L (nd p d).2.1 32)) 124)
    ((nd p d).2.1 + one (nx L (nd p d).2.1 32) + one (!nx L (nd p d).2.1 32 && nx L ((nd p d).2.1 + one (nx L (nd p d).2.1 32)) 124)) (nd p d).2.2
def starsP (L : List Nat) : Nat → Ty → Nat → Option Ty × Nat
  | 0, t, p => if nx L p 42 then (none, p + 1) else (some t, p)
  | m + 1, t, p => if nx L p 42 then starsP L m (.star t) (p + 1) else (some t, p)
def headP (nd : Nat → Int → Option Ty × Nat × Int) (L : List Nat) (p : Nat) (d : Int) : Option Ty × Nat × Int :=
  if nx L p 39 then ((leafP L false (p + 1)).1, (leafP L false (p + 1)).2, d)
  else if nx L p 91 then ((leafP L true (p + 1)).1, (leafP L true (p + 1)).2, d)
  else if nx L p 40 then coupleP nd L (p + 1) d
  else (none, p, d)
def tailP (L : List Nat) (r : Option Ty × Nat × Int) : Option Ty × Nat × Int :=
  match r.1 with
  | none => (none, r.2.1, r.2.2 - 1)
  | some t => ((starsP L 29 t r.2.1).1, (starsP L 29 t r.2.1).2, r.2.2 - 1)
def nodeP (L : List Nat) : Nat → Nat → Int → Option Ty × Nat × Int
  | 0, p, d => (none, p, d + 1)
  | n + 1, p, d => if d + 1 > 30 then (none, p, d + 1) else tailP L (headP (nodeP L n) L p (d + 1))
def readP (L : List Nat) : Option Ty :=
  match nodeP L 30 0 0 with
  | (some t, p, _) => if p = L.length ∧ countT 30 t.d ≤ 120 then some t else none
  | (none, _, _) => none
/-! ### what it tells was written -/
theorem nx_drop {L : List Nat} {p c : Nat} (h : nx L p c = true) : L.drop p = c :: L.drop (p + 1) := by
  have e := of_decide_eq_true h
  obtain ⟨hp, e⟩ := List.getElem?_eq_some_iff.mp e
  rw [List.drop_eq_getElem_cons hp, e]
theorem drop_nx {L : List Nat} {p c : Nat} {r : List Nat} (h : L.drop p = c :: r) : nx L p c = true := by
  refine decide_eq_true ?_
  have := congrArg (·[0]?) h
  simpa using this
theorem drop_nxF {L : List Nat} {p c a : Nat} {r : List Nat} (h : L.drop p = a :: r) (ne : a ≠ c) : nx L p c = false := by
  refine decide_eq_false ?_
  have := congrArg (·[0]?) h
  simp at this
  rw [this]
  exact fun z => ne (Option.some.inj z)
theorem run_split (L : List Nat) (p c : Nat) : L.drop p = rowOf L p c ++ L.drop (runTo L p c) := by
  unfold rowOf runTo
  rw [← List.drop_drop]
  conv => lhs; rw [← List.takeWhile_append_dropWhile (p := (· != c)) (l := L.drop p)]
  refine congrArg _ ?_
  conv => rhs; rhs; rw [← List.takeWhile_append_dropWhile (p := (· != c)) (l := L.drop p)]
  rw [List.drop_left]
theorem row_ne {L : List Nat} {p c a : Nat} (h : a ∈ rowOf L p c) : a ≠ c := by
  unfold rowOf at h
  generalize L.drop p = l at h
  induction l with
  | nil => simp at h
  | cons b l ih =>
    rw [List.takeWhile_cons] at h
    split at h
    · rename_i hb
      rcases List.mem_cons.mp h with rfl | h
      · simpa using hb
      · exact ih h
    · simp at h
theorem leaf_sound {L : List Nat} {s : Bool} {p q : Nat} {t : Ty} (h : leafP L s p = (some t, q)) : ∃ x, t = .leaf s x ∧ lfB s x = true ∧ L.drop p = swp x ++ cls s :: L.drop q := by
  unfold leafP rowP at h
  by_cases h1 : nx L (runTo L p (cls s)) (cls s) = true
  · rw [if_pos h1] at h
    cases h2 : (rowOf L p (cls s)).contains 10 with
    | true => rw [h2] at h; simp at h
    | false =>
      rw [h2] at h
      simp only [Bool.false_eq_true, if_false] at h
      by_cases h3 : lfB s (bck (rowOf L p (cls s))) = true
      · rw [if_pos h3] at h
        cases h
        refine ⟨_, rfl, h3, ?_⟩
        rw [swp_bck, ← nx_drop h1]
        · exact run_split L p (cls s)
        · rintro c hc rfl
          simp only [List.contains_eq_mem, decide_eq_false_iff_not] at h2
          exact h2 hc
      · rw [if_neg h3] at h; cases h
  · rw [if_neg h1] at h; cases h
theorem stars_sound {L : List Nat} {t' : Ty} {q : Nat} : ∀ {m : Nat} {t : Ty} {p : Nat}, starsP L m t p = (some t', q) → t.ok = true → ∃ z, t'.ok = true ∧ t'.sh = t.sh ++ z ∧ L.drop p = z ++ L.drop q
  | 0, t, p, h, ho => by
    unfold starsP at h
    split at h
    · cases h
    · cases h; exact ⟨[], ho, by simp, rfl⟩
  | m + 1, t, p, h, ho => by
    unfold starsP at h
    split at h
    · rename_i h1
      obtain ⟨z, a, b, c⟩ := stars_sound h (show (Ty.star t).ok = true from ho)
      refine ⟨42 :: z, a, ?_, ?_⟩
      · rw [b]; simp [Ty.sh]
      · rw [nx_drop h1, c]; rfl
    · cases h; exact ⟨[], ho, by simp, rfl⟩
theorem node_sound {L : List Nat} : ∀ {n p q : Nat} {d e : Int} {t : Ty}, nodeP L n p d = (some t, q, e) → t.ok = true ∧ L.drop p = t.sh ++ L.drop q
  | 0, p, q, d, e, t, h => by unfold nodeP at h; cases h
  | n + 1, p, q, d, e, t, h => by
    unfold nodeP at h
    split at h
    · cases h
    · have key : ∀ t0 p0 e0, headP (nodeP L n) L p (d + 1) = (some t0, p0, e0) → t0.ok = true ∧ L.drop p = t0.sh ++ L.drop p0 := by
        intro t0 p0 e0 hh
        unfold headP at hh
        split at hh
        · rename_i h1
          have hl : leafP L false (p + 1) = (some t0, p0) := by
            cases e : leafP L false (p + 1)
            rw [e] at hh; cases hh; rfl
          obtain ⟨x, rfl, o, e⟩ := leaf_sound hl
          refine ⟨o, ?_⟩
          rw [nx_drop h1, e]
          simp [Ty.sh, opn]
        · split at hh
          · rename_i h1
            have hl : leafP L true (p + 1) = (some t0, p0) := by
              cases e : leafP L true (p + 1)
              rw [e] at hh; cases hh; rfl
            obtain ⟨x, rfl, o, e⟩ := leaf_sound hl
            refine ⟨o, ?_⟩
            rw [nx_drop h1, e]
            simp [Ty.sh, opn]
          · split at hh
            · rename_i h1
              unfold coupleP at hh
              cases e1 : nodeP L n (p + 1) (d + 1) with
              | mk o1 r1 =>
                obtain ⟨p1, d1⟩ := r1
                rw [e1] at hh
                simp only at hh
                unfold restP at hh
                cases o1 with
                | none => cases hh
                | some a =>
                  simp only at hh
                  obtain ⟨oa, ea⟩ := node_sound e1
                  by_cases hb : (nx L p1 32 || (!nx L p1 32 && nx L (p1 + one (nx L p1 32)) 124)) = true
                  · rw [if_pos hb] at hh
                    cases e2 : nodeP L n (p1 + one (nx L p1 32) + one (!nx L p1 32 && nx L (p1 + one (nx L p1 32)) 124)) d1 with
                    | mk o2 r2 =>
                      obtain ⟨p4, d4⟩ := r2
                      rw [e2] at hh
                      simp only at hh
                      cases o2 with
                      | none => cases hh
                      | some b =>
                        simp only at hh
                        obtain ⟨ob, eb⟩ := node_sound e2
                        split at hh
                        · rename_i h4
                          cases hh
                          refine ⟨by simp [Ty.ok, oa, ob], ?_⟩
                          rw [nx_drop h1, ea]
                          have es : L.drop p1 = sep (!nx L p1 32 && nx L (p1 + one (nx L p1 32)) 124) :: L.drop (p1 + one (nx L p1 32) + one (!nx L p1 32 && nx L (p1 + one (nx L p1 32)) 124)) := by
                            cases hx : nx L p1 32 with
                            | true => exact nx_drop hx
                            | false =>
                              rw [hx] at hb
                              simp only [Bool.not_false, Bool.true_and, Bool.false_or, one, Bool.false_eq_true, if_false, Nat.add_zero] at hb ⊢
                              rw [hb]
                              exact nx_drop hb
                          rw [es, eb, nx_drop h4]
                          simp [Ty.sh]
                        · cases hh
                  · rw [if_neg hb] at hh; cases hh
            · cases hh
      unfold tailP at h
      cases e1 : headP (nodeP L n) L p (d + 1) with
      | mk o1 r1 =>
        obtain ⟨p1, d1⟩ := r1
        rw [e1] at h
        simp only at h
        cases o1 with
        | none => cases h
        | some t0 =>
          obtain ⟨o0, e0⟩ := key t0 p1 d1 e1
          simp only at h
          have hs : starsP L 29 t0 p1 = (some t, q) := by
            cases e : starsP L 29 t0 p1
            rw [e] at h; cases h; rfl
          obtain ⟨z, a, b, c⟩ := stars_sound hs o0
          refine ⟨a, ?_⟩
          rw [e0, b, c]
          simp
theorem read_sound {L : List Nat} {t : Ty} (h : readP L = some t) : t.ok = true ∧ t.sh = L ∧ countT 30 t.d ≤ 120 := by
  unfold readP at h
  cases e : nodeP L 30 0 0 with
  | mk o r =>
    obtain ⟨p, d⟩ := r
    rw [e] at h
    cases o with
    | none => cases h
    | some t0 =>
      simp only at h
      split at h
      · rename_i hc
        cases h
        obtain ⟨a, b⟩ := node_sound e
        refine ⟨a, ?_, hc.2⟩
        rw [List.drop_zero, hc.1, List.drop_length, List.append_nil] at b
        exact b.symm
      · cases h
/-! ### what was written is told -/
def Ty.br : Ty → Nat
  | .leaf _ _ => 1
  | .star t => t.br
  | .pair _ a b => max a.br b.br + 1
def Ty.st : Ty → Nat
  | .star t => t.st + 1
  | _ => 0
/-- no more than 29 stars behind one another -/
def Ty.few : Ty → Prop
  | .leaf _ _ => True
  | .star t => t.few ∧ t.st + 1 ≤ 29
  | .pair _ a b => a.few ∧ b.few
theorem take_row {x : List Nat} {c : Nat} {r : List Nat} (h : ∀ a ∈ x, a ≠ c) : (x ++ c :: r).takeWhile (· != c) = x := by
  induction x with
  | nil => simp
  | cons a x ih =>
    rw [List.cons_append, List.takeWhile_cons, if_pos (by simpa using h a List.mem_cons_self), ih fun b hb => h b (List.mem_cons_of_mem _ hb)]
theorem leaf_complete {L : List Nat} {s : Bool} {p : Nat} {x r : List Nat} (o : lfB s x = true) (h : L.drop p = swp x ++ cls s :: r) : leafP L s p = (some (.leaf s x), p + x.length + 1) := by
  obtain ⟨_, sg⟩ := lf_ok o
  have ne : ∀ a ∈ swp x, a ≠ cls s := by
    intro a ha
    rcases (swp_mem ha).2 with rfl | hm
    · cases s <;> decide
    · obtain ⟨_, h2, h3⟩ := ok_sign (sg a hm)
      cases s
      · exact h2
      · exact h3
  have er : rowOf L p (cls s) = swp x := by unfold rowOf; rw [h]; exact take_row ne
  have eq : runTo L p (cls s) = p + x.length := by
    show p + (rowOf L p (cls s)).length = _
    rw [er, swp_len]
  have hn : nx L (p + x.length) (cls s) = true := by
    refine drop_nx (r := r) ?_
    rw [← List.drop_drop, h, ← swp_len x, List.drop_left]
  unfold leafP rowP
  rw [eq, if_pos hn, er]
  have h10 : (swp x).contains 10 = false := by
    simp only [List.contains_eq_mem, decide_eq_false_iff_not]
    exact fun hm => (swp_mem hm).1 rfl
  rw [h10, bck_swp fun c hc => (ok_sign (sg c hc)).1]
  simp only [Bool.false_eq_true, if_false]
  rw [if_pos o]
theorem node_complete {L : List Nat} : ∀ {t : Ty} {n p : Nat} {d : Int} {r : List Nat}, t.ok = true → t.few → t.br ≤ n + 1 → d + t.br ≤ 30 → L.drop p = t.sh ++ r →
    nodeP L (n + 1) p d = ((starsP L (29 - t.st) t (p + t.sh.length)).1, (starsP L (29 - t.st) t (p + t.sh.length)).2, d)
  | .leaf s x, n, p, d, r, o, f, hn, hd, h => by
    have hd1 : ¬ d + 1 > 30 := by simp only [Ty.br] at hd; omega
    have h0 : L.drop p = opn s :: (swp x ++ cls s :: r) := by rw [h]; simp [Ty.sh]
    have h1 := nx_drop (drop_nx h0)
    have h2 : L.drop (p + 1) = swp x ++ cls s :: r := by rw [h0] at h1; exact (List.cons.inj h1).2.symm
    have hl := leaf_complete o h2
    have len : (Ty.leaf s x).sh.length = x.length + 2 := by simp [Ty.sh, swp_len]
    have e : headP (nodeP L n) L p (d + 1) = (some (.leaf s x), p + (x.length + 2), d + 1) := by
      unfold headP
      cases s with
      | false => rw [if_pos (show nx L p 39 = true from drop_nx h0), hl]; show (_, p + 1 + x.length + 1, _) = _; rw [show p + 1 + x.length + 1 = p + (x.length + 2) by omega]
      | true => rw [if_neg (by rw [drop_nxF h0 (by decide)]; decide), if_pos (show nx L p 91 = true from drop_nx h0), hl]; show (_, p + 1 + x.length + 1, _) = _; rw [show p + 1 + x.length + 1 = p + (x.length + 2) by omega]
    rw [nodeP, if_neg hd1, e, len]
    show ((starsP L 29 _ _).1, (starsP L 29 _ _).2, d + 1 - 1) = _
    rw [show d + 1 - 1 = d by omega]
    rfl
  | .star t, n, p, d, r, o, f, hn, hd, h => by
    have h' : L.drop p = t.sh ++ 42 :: r := by rw [h]; simp [Ty.sh]
    have ih := node_complete (t := t) (n := n) (p := p) (d := d) (r := 42 :: r) o f.1 hn hd h'
    have hs : nx L (p + t.sh.length) 42 = true := by
      refine drop_nx (r := r) ?_
      rw [← List.drop_drop, h', List.drop_left]
    have hm : 29 - t.st = (29 - (Ty.star t).st) + 1 := by have := f.2; simp only [Ty.st]; omega
    rw [ih, hm, starsP, if_pos hs]
    have len : p + (Ty.star t).sh.length = p + t.sh.length + 1 := by simp [Ty.sh]; omega
    rw [len]
  | .pair o2 a b, n, p, d, r, o, f, hn, hd, h => by
    have hd1 : ¬ d + 1 > 30 := by simp only [Ty.br] at hd; omega
    simp only [Ty.ok, Bool.and_eq_true] at o
    simp only [Ty.br] at hn hd
    have h0 : L.drop p = 40 :: (a.sh ++ sep o2 :: (b.sh ++ 41 :: r)) := by rw [h]; simp [Ty.sh]
    have h1 : L.drop (p + 1) = a.sh ++ sep o2 :: (b.sh ++ 41 :: r) := by
      have := nx_drop (drop_nx h0)
      rw [h0] at this
      exact (List.cons.inj this).2.symm
    have ab : 1 ≤ a.br ∧ 1 ≤ b.br := by
      have pos : ∀ t : Ty, 1 ≤ t.br := by
        intro t
        induction t with
        | leaf => simp [Ty.br]
        | star t ih => exact ih
        | pair o a b => simp [Ty.br]
      exact ⟨pos a, pos b⟩
    obtain ⟨n', rfl⟩ : ∃ n', n = n' + 1 := ⟨n - 1, by omega⟩
    have ia := node_complete (t := a) (n := n') (p := p + 1) (d := d + 1) o.1 f.1 (by omega) (by omega) h1
    have h2 : L.drop (p + 1 + a.sh.length) = sep o2 :: (b.sh ++ 41 :: r) := by rw [← List.drop_drop, h1, List.drop_left]
    have sa : starsP L (29 - a.st) a (p + 1 + a.sh.length) = (some a, p + 1 + a.sh.length) := by
      have no : nx L (p + 1 + a.sh.length) 42 = false := drop_nxF h2 (by cases o2 <;> decide)
      cases 29 - a.st <;> (unfold starsP; rw [if_neg (by rw [no]; decide)])
    rw [sa] at ia
    have h3 : L.drop (p + 1 + a.sh.length + 1) = b.sh ++ 41 :: r := by
      have := nx_drop (drop_nx h2)
      rw [h2] at this
      exact (List.cons.inj this).2.symm
    have ib := node_complete (t := b) (n := n') (p := p + 1 + a.sh.length + 1) (d := d + 1) o.2 f.2 (by omega) (by omega) h3
    have h4 : L.drop (p + 1 + a.sh.length + 1 + b.sh.length) = 41 :: r := by rw [← List.drop_drop, h3, List.drop_left]
    have sb : starsP L (29 - b.st) b (p + 1 + a.sh.length + 1 + b.sh.length) = (some b, p + 1 + a.sh.length + 1 + b.sh.length) := by
      have no : nx L (p + 1 + a.sh.length + 1 + b.sh.length) 42 = false := drop_nxF h4 (by decide)
      cases 29 - b.st <;> (unfold starsP; rw [if_neg (by rw [no]; decide)])
    rw [sb] at ib
    have len : p + (Ty.pair o2 a b).sh.length = p + 1 + a.sh.length + 1 + b.sh.length + 1 := by simp [Ty.sh]; omega
    have e : headP (nodeP L (n' + 1)) L p (d + 1) = (some (.pair o2 a b), p + (Ty.pair o2 a b).sh.length, d + 1) := by
      unfold headP
      rw [if_neg (by rw [drop_nxF h0 (by decide)]; decide), if_neg (by rw [drop_nxF h0 (by decide)]; decide), if_pos (drop_nx h0)]
      unfold coupleP
      rw [ia]
      unfold restP
      simp only
      cases o2 with
      | false =>
        have n1 : nx L (p + 1 + a.sh.length) 32 = true := drop_nx h2
        rw [n1]
        simp only [one, Bool.not_true, Bool.false_and, Bool.true_or, if_true, Bool.false_eq_true, if_false, Nat.add_zero]
        rw [ib]
        simp only
        rw [if_pos (drop_nx h4), len]
      | true =>
        have n1 : nx L (p + 1 + a.sh.length) 32 = false := drop_nxF h2 (by decide)
        have n2 : nx L (p + 1 + a.sh.length) 124 = true := drop_nx h2
        rw [n1]
        simp only [one, Bool.not_false, Bool.true_and, Bool.false_or, if_true, Bool.false_eq_true, if_false, Nat.add_zero]
        rw [n2]
        simp only [if_true]
        rw [ib]
        simp only
        rw [if_pos (drop_nx h4), len]
    rw [nodeP, if_neg hd1, e]
    show ((starsP L 29 _ _).1, (starsP L 29 _ _).2, d + 1 - 1) = _
    rw [show d + 1 - 1 = d by omega]
    rfl
theorem read_complete {t : Ty} (o : t.ok = true) (f : t.few) (b : t.br ≤ 30) (c : countT 30 t.d ≤ 120) : readP t.sh = some t := by
  have h := node_complete (L := t.sh) (t := t) (n := 29) (p := 0) (d := 0) (r := []) o f (by omega) (by omega) (by simp)
  have s : starsP t.sh (29 - t.st) t (0 + t.sh.length) = (some t, t.sh.length) := by
    have no : nx t.sh (0 + t.sh.length) 42 = false := by
      refine decide_eq_false ?_
      rw [Nat.zero_add, List.getElem?_eq_none (Nat.le_refl _)]
      exact fun z => nomatch z
    cases 29 - t.st <;> (unfold starsP; rw [if_neg (by rw [no]; decide), Nat.zero_add])
  rw [s] at h
  unfold readP
  rw [h]
  simp only
  rw [if_pos ⟨trivial, c⟩]
end K02

set_option maxHeartbeats 4000000
/-! K02q: a type's data: plain, its depth, its weight, its nodes. -/
namespace K02
open PySem PySem.Spec DL KB
open PyProof.Rows hiding St signs

theorem S_size (l : List Nat) : (S l).cps.size = l.length := by simp
theorem S_list (l : List Nat) : (S l).cps.toList = l := by simp
theorem S_len (l : List Nat) : (S l).length = l.length := by simp [Str.length]
theorem S_app (a b : List Nat) : S a ++ S b = S (a ++ b) := by
  show (⟨(S a).cps ++ (S b).cps⟩ : Str) = _
  simp
theorem S_of (x : Str) : x = S x.cps.toList := by cases x; simp
theorem S_inj {a b : List Nat} (h : S a = S b) : a = b := by
  have := congrArg (fun s : Str => s.cps.toList) h
  simpa using this
theorem gd_wd (s : Bool) : gd (.str (wd s)) = true := by cases s <;> decide +kernel
theorem gd_pw (o : Bool) : gd (.str (pw o)) = true := by cases o <;> decide +kernel
theorem gd_S {x : List Nat} (l : x.length ≤ 100000) (h : ∀ c ∈ x, c < 128) : gd (.str (S x)) = true := gd_str.mpr ⟨by rw [S_size]; exact l, by rw [S_list]; exact h⟩
theorem gd_leaf {s : Bool} {x : List Nat} (h : lfB s x = true) : gd (.str (S x)) = true := by
  obtain ⟨a, b⟩ := lf_ok h
  exact gd_S (by omega) fun c hc => ok_small (b c hc)
theorem ty_gd : ∀ {t : Ty}, t.ok = true → gd t.d = true
  | .leaf s x, h => gd_tup.mpr ⟨by simp, fun y hy => by
    simp at hy
    rcases hy with rfl | rfl
    · exact gd_wd s
    · exact gd_leaf h⟩
  | .star t, h => gd_tup.mpr ⟨by simp, fun y hy => by
    simp at hy
    rcases hy with rfl | rfl
    · decide +kernel
    · exact ty_gd (t := t) h⟩
  | .pair o a b, h => by
    simp only [Ty.ok, Bool.and_eq_true] at h
    refine gd_tup.mpr ⟨by simp, fun y hy => ?_⟩
    simp at hy
    rcases hy with rfl | rfl | rfl
    · exact gd_pw o
    · exact ty_gd h.1
    · exact ty_gd h.2
theorem ty_dep : ∀ t : Ty, dep t.d = t.hi
  | .leaf s x => by simp [Ty.d, dep, depAll, Ty.hi]
  | .star t => by have := ty_dep t; simp [Ty.d, dep, depAll, Ty.hi, this]
  | .pair o a b => by have h1 := ty_dep a; have h2 := ty_dep b; simp [Ty.d, dep, depAll, Ty.hi, h1, h2]
theorem wd_size (s : Bool) : (wd s).cps.size = 4 := by cases s <;> rfl
theorem pw_size (o : Bool) : (pw o).cps.size ≤ 3 := by cases o <;> decide
theorem ty_wt : ∀ {t : Ty}, t.ok = true → wt t.d ≤ 60 * t.nodes
  | .leaf s x, h => by
    have := (lf_ok h).1
    have e := wd_size s
    have e2 := S_size x
    simp only [Ty.d, wt, wtAll, Ty.nodes, e] at e2 ⊢
    omega
  | .star t, h => by
    have := ty_wt (t := t) h
    have e : (Str.ofString "star").cps.size = 4 := rfl
    simp only [Ty.d, wt, wtAll, Ty.nodes, e]
    omega
  | .pair o a b, h => by
    simp only [Ty.ok, Bool.and_eq_true] at h
    have h1 := ty_wt h.1
    have h2 := ty_wt h.2
    have := pw_size o
    simp only [Ty.d, wt, wtAll, Ty.nodes]
    omega
theorem ty_node : ∀ {t : Ty}, t.ok = true → nodeB t.d = true
  | .leaf s x, h => by
    show (if wd s ∈ LV then leafB (wd s) (.str (S x)) else decide (wd s = "star")) = true
    rw [if_pos (by cases s <;> decide)]
    exact h
  | .star t, h => by
    show (if ("star" : Str) ∈ LV then leafB "star" t.d else decide (("star" : Str) = "star")) = true
    rw [if_neg (by decide)]
    exact decide_eq_true rfl
  | .pair o a b, h => by
    show decide (pw o ∈ PR) = true
    cases o <;> decide
theorem parts_leaf (s : Bool) (x : List Nat) : partsB (Ty.leaf s x).d = [] := by cases s <;> rfl
theorem parts_star (t : Ty) : partsB (Ty.star t).d = [t.d] := by rfl
theorem parts_pair (o : Bool) (a b : Ty) : partsB (Ty.pair o a b).d = [a.d, b.d] := by cases o <;> rfl
theorem ty_count : ∀ {t : Ty} {n : Nat}, t.ok = true → t.hi ≤ n → countT n t.d = t.nodes
  | t, 0, _, h => by cases t <;> simp [Ty.hi] at h
  | .leaf s x, n + 1, o, h => by
    rw [countT, if_pos (ty_node o), parts_leaf]
    rfl
  | .star t, n + 1, o, h => by
    rw [countT, if_pos (ty_node o), parts_star]
    have := ty_count (t := t) (n := n) o (by simp only [Ty.hi] at h; omega)
    simp [this, Ty.nodes]
    omega
  | .pair q a b, n + 1, o, h => by
    rw [countT, if_pos (ty_node o), parts_pair]
    simp only [Ty.ok, Bool.and_eq_true] at o
    simp only [Ty.hi] at h
    have h1 := ty_count (t := a) (n := n) o.1 (by omega)
    have h2 := ty_count (t := b) (n := n) o.2 (by omega)
    simp [h1, h2, Ty.nodes]
    omega
theorem hi_len : ∀ t : Ty, t.hi + 1 ≤ t.sh.length
  | .leaf s x => by simp [Ty.hi, Ty.sh]
  | .star t => by have := hi_len t; simp [Ty.hi, Ty.sh]; omega
  | .pair o a b => by have := hi_len a; have := hi_len b; simp [Ty.hi, Ty.sh]; omega
theorem st_hi : ∀ t : Ty, t.st + 1 ≤ t.hi
  | .leaf s x => by simp [Ty.st, Ty.hi]
  | .star t => by have := st_hi t; simp [Ty.st, Ty.hi]; omega
  | .pair o a b => by simp [Ty.st, Ty.hi]
theorem few_hi : ∀ {t : Ty}, t.hi ≤ 29 → t.few
  | .leaf s x, _ => trivial
  | .star t, h => by
    simp only [Ty.hi] at h
    have := st_hi t
    exact ⟨few_hi (by omega), by omega⟩
  | .pair o a b, h => by
    simp only [Ty.hi] at h
    exact ⟨few_hi (by omega), few_hi (by omega)⟩
theorem br_hi : ∀ t : Ty, t.br ≤ t.hi
  | .leaf s x => Nat.le_refl _
  | .star t => by have := br_hi t; simp only [Ty.br, Ty.hi]; omega
  | .pair o a b => by have := br_hi a; have := br_hi b; simp only [Ty.br, Ty.hi]; omega
/-- a drawn type, of a depth -/
structure Dn (n : Nat) (t : Ty) : Prop where
  ok : t.ok = true
  hi : t.hi ≤ n
  nodes : t.nodes + 1 ≤ 2 ^ n
  len : t.sh.length + 3 ≤ 4 * 2 ^ n
theorem Dn.read {t : Ty} (h : Dn 4 t) : readP t.sh = some t := by
  have := h.hi
  refine read_complete h.ok (few_hi (by omega)) (Nat.le_trans (br_hi t) (by omega)) ?_
  rw [ty_count h.ok (by omega)]
  have := h.nodes
  omega
theorem dn_leaf {n : Nat} {s : Bool} {x : List Nat} (hn : 1 ≤ n) (h : lfB s x = true) (l : x.length ≤ 3) : Dn n (.leaf s x) := by
  have : 2 ^ 1 ≤ 2 ^ n := Nat.pow_le_pow_right (by omega) hn
  refine ⟨h, hn, ?_, ?_⟩
  · show 1 + 1 ≤ _; omega
  · simp only [Ty.sh, List.length_cons, List.length_append, swp_len, List.length_nil]; omega
theorem dn_star {n : Nat} {t : Ty} (h : Dn n t) : Dn (n + 1) (.star t) := by
  obtain ⟨a, b, c, d⟩ := h
  have : 2 ^ (n + 1) = 2 * 2 ^ n := by rw [Nat.pow_succ]; omega
  have p1 : 1 ≤ 2 ^ n := Nat.one_le_two_pow
  refine ⟨a, ?_, ?_, ?_⟩
  · simp only [Ty.hi]; omega
  · simp only [Ty.nodes]; omega
  · simp only [Ty.sh, List.length_append, List.length_cons, List.length_nil]; omega
theorem dn_pair {n : Nat} {o : Bool} {s t : Ty} (h : Dn n s) (h2 : Dn n t) : Dn (n + 1) (.pair o s t) := by
  obtain ⟨a, b, c, d⟩ := h
  obtain ⟨a2, b2, c2, d2⟩ := h2
  have : 2 ^ (n + 1) = 2 * 2 ^ n := by rw [Nat.pow_succ]; omega
  refine ⟨by simp [Ty.ok, a, a2], ?_, ?_, ?_⟩
  · simp only [Ty.hi]; omega
  · simp only [Ty.nodes]; omega
  · simp only [Ty.sh, List.length_append, List.length_cons, List.length_nil]; omega
/-- what replace does to a sign -/
theorem repl_map (a b : Nat) : ∀ l : List Nat, StrLaws.replL [a] [b] l = l.map fun c => if c = a then b else c
  | [] => StrLaws.replL_nil
  | c :: r => by
    by_cases h : c = a
    · subst h
      rw [StrLaws.replL_hit (by simp) (by simp)]
      show [b] ++ StrLaws.replL [c] [b] r = _
      rw [repl_map c b r]
      simp
    · rw [StrLaws.replL_miss (by simp [h]), repl_map a b r]
      simp [h]
theorem rep_shown (x : List Nat) : Txt.replace (S x) "\x0a" "/" = S (swp x) := by
  rw [S_of (Txt.replace _ _ _), StrLaws.replace_list (by decide)]
  rw [S_list]
  exact congrArg S (repl_map 10 47 x)
theorem rep_read (x : List Nat) : Txt.replace (S x) "/" "\x0a" = S (bck x) := by
  rw [S_of (Txt.replace _ _ _), StrLaws.replace_list (by decide)]
  rw [S_list]
  exact congrArg S (repl_map 47 10 x)
end K02

set_option maxHeartbeats 4000000
/-! K02d: drawn types (turned from K01e, g). -/
namespace K02
open PySem PySem.Spec DL KB
open L2 (atI ixN)
open PyProof.Rows hiding St signs
theorem nodup_len {α : Type} [BEq α] [LawfulBEq α] : ∀ {ks l : List α}, ks.Nodup → (∀ k ∈ ks, k ∈ l) → ks.length ≤ l.length
  | [], _, _, _ => Nat.zero_le _
  | x :: r, l, nd, sub => by
    obtain ⟨n1, n2⟩ := List.nodup_cons.mp nd
    have hx := sub x List.mem_cons_self
    have ih := nodup_len (l := l.erase x) n2 fun k hk => (List.mem_erase_of_ne fun e => n1 (by rw [← e]; exact hk)).mpr (sub k (List.mem_cons_of_mem _ hk))
    have := List.length_erase_of_mem hx
    have := List.length_pos_of_mem hx
    simp only [List.length_cons]
    omega
/-- the draws of a leaf's signs, one by one -/
theorem draws_signs {a : Addr} {x : Str} {M1 : Mp} {c : Nat} {G : Mp → Prop} (hG : ∀ M, G M) {ρ : Rho} (hr : ∃ z, ρ = [some (.ref a), some (.str x), z]) {k : List DL.D → Mp → Prop} {xs : List DL.D} (p : Pot M1 a c) (hc : c + xs.length ≤ 100000) (hx : 0 < x.cps.size) (fx : Fs 100 x) (l3 : xs.length ≤ 3)
    (h : ∀ (ys : List Str) M2, ys.length = xs.length → (∀ y ∈ ys, ∃ c, okSign c = true ∧ y = sg c) → Dr M1 a M2 (c + xs.length) → k (ys.map D.str) M2) :
    lcW (dgName 2) dYes (dCall1 sp_of (dCons (dSlot 0) (dCons (dSlot 1) dNil))) G ρ k xs [] M1 := by
  obtain ⟨z, rfl⟩ := hr
  refine lc_inv (fun n M => Dr M1 a M (c + n)) (fun d => ∃ c, okSign c = true ∧ d = .str (sg c)) (fun _ _ _ => hG _) xs [] M1 (Dr.refl p) (fun d hd => nomatch hd) ?_ (small (by simp; omega)) ?_
  · intro d hd n M i hn K1 K2 hk
    simp at hn
    refine ⟨_, rfl, _, rfl, a, _, c + n, rfl, i.1, by omega, .inr ⟨x, rfl, hx, by have := fx.1; omega, fun ch hch M' dr => ?_⟩⟩
    exact hk _ _ ⟨ch, fx.2 ch hch, rfl⟩ (i.trans dr)
  · intro ds M' l P i
    have e : ∃ ys : List Str, ds = ys.map D.str ∧ ∀ y ∈ ys, ∃ c, okSign c = true ∧ y = sg c := by
      clear i l
      induction ds with
      | nil => exact ⟨[], rfl, fun _ h => nomatch h⟩
      | cons d ds ih =>
        obtain ⟨ys, rfl, h⟩ := ih fun d hd => P d (List.mem_cons_of_mem _ hd)
        obtain ⟨c, h1, rfl⟩ := P _ List.mem_cons_self
        exact ⟨sg c :: ys, rfl, fun y hy => (List.mem_cons.mp hy).elim (fun e => ⟨c, h1, e⟩) (h y)⟩
    obtain ⟨ys, rfl, hy⟩ := e
    rw [List.length_map] at l i
    simp at l
    rw [l] at i
    exact h ys M' l hy i
def sp_leafd : DS1 := fun ds M Q => ∃ (a : Addr) (x : Str) (c : Nat), ds = [.ref a, .str x] ∧ Pot M a c ∧ c + 5 ≤ 100000 ∧ 0 < x.cps.size ∧ Fs 100 x ∧ ∀ (s : Bool) (y : List Nat) M2, lfB s y = true → y.length ≤ 3 → Dr M a M2 (c + 5) → Q (Ty.leaf s y).d M2
theorem sg_ok {ms : List Nat} (hz : ∀ z ∈ ms.map sg, ∃ c, okSign c = true ∧ z = sg c) : ∀ c ∈ ms, okSign c = true := by
  intro c hc
  obtain ⟨c', h1, e⟩ := hz (sg c) (List.mem_map.mpr ⟨c, hc, rfl⟩)
  rw [sg_inj e]; exact h1
theorem text_mk {ms : List Nat} {m : Int} (l : (ms.length : Int) ≤ m) (h : ∀ c ∈ ms, okSign c = true) : textB (.str (S ms)) m = true := by
  unfold textB
  simp only [Bool.and_eq_true, decide_eq_true_eq, List.all_eq_true]
  exact ⟨by rw [S_len]; exact l, fun c hc => h c (by simpa using hc)⟩
theorem leaf_sign {ms : List Nat} (l : ms.length ≤ 3) (ne : ms ≠ []) (h : ∀ c ∈ ms, okSign c = true) (nd : ms.Nodup) (so : sortedS (ms.map sg) = true) : lfB true ms = true := by
  unfold lfB leafB
  rw [if_neg (by decide)]
  unfold signB
  simp only [Bool.and_eq_true]
  refine ⟨⟨text_mk (by omega) h, ?_⟩, ?_⟩
  · cases ms with
    | nil => exact absurd rfl ne
    | cons a r =>
      rw [decide_eq_false]
      · rfl
      · intro e
        have := S_inj (a := a :: r) (b := []) (e.trans rfl)
        cases this
  · exact sorted_asc so nd
theorem leaf_text {ms : List Nat} (l : ms.length ≤ 3) (h : ∀ c ∈ ms, okSign c = true) : lfB false ms = true := by
  unfold lfB leafB
  rw [if_pos (by rfl)]
  exact text_mk (by omega) h
theorem nodup_sg {ms : List Nat} (h : (ms.map sg).Nodup) : ms.Nodup := by
  induction ms with
  | nil => exact .nil
  | cons a r ih =>
    obtain ⟨n1, n2⟩ := List.nodup_cons.mp h
    exact List.nodup_cons.mpr ⟨fun h => n1 (List.mem_map.mpr ⟨a, h, rfl⟩), ih n2⟩
theorem rd_leafd : ∀ ds M Q, sp_leafd ds M Q → ds.length = 2 ∧ r__law_leaf sp_take sp_of { nx := fun _ M' => Q .non M', rt := Q } (dstart N__law_leaf ds) M := by
  rintro _ M Q ⟨a, x, c, rfl, p, hc, hx, fx, q⟩
  refine ⟨rfl, ?_⟩
  have jl : (Str.ofString "").length = 0 := rfl
  refine ⟨_, rfl, a, 3, c, rfl, p, by omega, by omega, by omega, fun d M1 h0 h1 d1 => ?_⟩
  refine ⟨decide (d = 0), rfl, ?_⟩
  by_cases hd : d = 0
  · rw [decide_eq_true hd]
    refine ⟨_, rfl, ?_⟩
    refine ⟨_, rfl, a, 3, c + 1, rfl, d1.1, by omega, by omega, by omega, fun e M2 e0 e1 d2 => ?_⟩
    refine ⟨1 + e, rfl, by omega, by omega, ?_⟩
    have lr : (rgD 0 (1 + e).toNat).length = (1 + e).toNat := by unfold rgD; simp
    refine draws_signs (fun _ => trivial) ⟨none, rfl⟩ d2.1 (by omega) hx fx (by omega) fun ys M3 ly hy d3 => newTr ⟨ys, .inr rfl, ?_, fun zs nd mem so => newTr ⟨zs, rfl, ?_, small (by simp), ?_⟩⟩
    · intro ks nd sub
      have := nodup_len nd sub
      omega
    all_goals
      have hz : ∀ z ∈ zs, ∃ c, okSign c = true ∧ z = sg c := fun z hz => hy z ((mem z).mp hz)
      have lz : zs.length ≤ ys.length := nodup_len nd fun z hz => (mem z).mp hz
      obtain ⟨f1, f2, f3⟩ := join_sg hz
    · rw [f3, jl]; omega
    · obtain ⟨ms, rfl⟩ := sgs_of (ys := zs) fun z hz' => let ⟨c, _, e⟩ := hz z hz'; ⟨c, e⟩
      rw [List.length_map] at lz
      have ne : ms ≠ [] := by
        rintro rfl
        cases ys with
        | nil => simp at ly; omega
        | cons y r => exact nomatch (mem y).mpr List.mem_cons_self
      rw [gl_sg]
      exact q true ms M3 (leaf_sign (by omega) ne (sg_ok hz) (nodup_sg nd) so) (by omega) (((d1.trans d2).trans d3).up (by omega))
  · rw [decide_eq_false hd]
    refine ⟨_, rfl, _, rfl, small (by simp), newTr ⟨a, _, c + 1, rfl, d1.1, by omega, .inl ⟨_, rfl, by simp, by simp, fun d hd M2 d2 => ?_⟩⟩⟩
    have go : ∀ m : Nat, m ≤ 3 → (∃ j : Int, D.int (m : Nat) = .int j ∧ -(2 ^ 62) ≤ j ∧ j < 2 ^ 62 ∧ lcW (dgName 2) dYes (dCall1 sp_of (dCons (dSlot 0) (dCons (dSlot 1) dNil))) (fun _ => True) (dwipe (dstart N__law_leaf [D.ref a, .str x]) [2])
        (fun ds M3 => newL true ds M3 fun y M4 => ∃ ss : List Str, seqOf M4 y = some (ss.map D.str) ∧ (ss.map (·.length)).sum + ss.length * (Str.ofString "").length ≤ 16777216 ∧ ([D.str "text", .str (Txt.join (Str.ofString "") ss)] : List DL.D).length ≤ sizeLine ∧ Q (.tup [.str "text", .str (Txt.join (Str.ofString "") ss)]) M4) (rgD 0 j.toNat) [] M2) := by
      intro m hm
      have lr : (rgD 0 ((m : Nat) : Int).toNat).length = m := by unfold rgD; simp
      refine ⟨_, rfl, by omega, by omega, ?_⟩
      refine draws_signs (fun _ => trivial) ⟨none, rfl⟩ d2.1 (by omega) hx fx (by omega) fun ys M3 ly hy d3 => newTr ?_
      obtain ⟨f1, f2, f3⟩ := join_sg hy
      refine ⟨ys, rfl, ?_, small (by simp), ?_⟩
      · rw [f3, jl]; omega
      · obtain ⟨ms, rfl⟩ := sgs_of (ys := ys) fun z hz' => let ⟨c, _, e⟩ := hy z hz'; ⟨c, e⟩
        rw [List.length_map] at ly
        rw [gl_sg]
        exact q false ms M3 (leaf_text (by omega) (sg_ok hy)) (by omega) (((d1.trans d2).trans d3).up (by omega))
    simp at hd
    rcases hd with rfl | rfl | rfl | rfl
    · exact go 0 (by omega)
    · exact go 1 (by omega)
    · exact go 2 (by omega)
    · exact go 3 (by omega)
def sp_drawn (N : Nat) : DS1 := fun ds M Q => ∃ (a : Addr) (x : Str) (n c : Nat), ds = [.ref a, .str x, .int (n : Nat)] ∧ 1 ≤ n ∧ n < N ∧ Pot M a c ∧ c + (12 * 2 ^ n - 1) ≤ 100000 ∧ 0 < x.cps.size ∧ Fs 100 x ∧
  ∀ t M2, Dn n t → Dr M a M2 (c + (12 * 2 ^ n - 1)) → Q t.d M2
theorem two_words {d : Int} (h0 : 0 ≤ d) (h1 : d < 2) : ∃ o : Bool, atI [D.str "cat", .str "or"] d = some (.str (pw o)) := by
  rcases (show d = 0 ∨ d = 1 by omega) with rfl | rfl
  · exact ⟨false, rfl⟩
  · exact ⟨true, rfl⟩
theorem rd_drawn (N : Nat) : ∀ ds M Q, sp_drawn (N + 1) ds M Q → ds.length = 3 ∧ r__law_type_drawn sp_take sp_leafd (sp_drawn N) { nx := fun _ M' => Q .non M', rt := Q } (dstart N__law_type_drawn ds) M := by
  rintro _ M Q ⟨a, x, n, c, rfl, n1, nN, p, hc, hx, fx, q⟩
  refine ⟨rfl, ?_⟩
  obtain ⟨m, rfl⟩ : ∃ m, n = m + 1 := ⟨n - 1, by omega⟩
  have pw2 : 2 ^ (m + 1) = 2 * 2 ^ m := by rw [Nat.pow_succ]; omega
  have p1 : 1 ≤ 2 ^ m := Nat.one_le_two_pow
  rw [pw2] at hc
  refine ⟨_, rfl, a, 7, c, rfl, p, by omega, by omega, by omega, fun d M1 h0 h1 d1 => ?_⟩
  have leafgo : sp_leafd [.ref a, .str x] M1 Q := ⟨a, x, c + 1, rfl, d1.1, by omega, hx, fx, fun s y M2 hl l3 d2 => q _ _ (dn_leaf n1 hl l3) ((d1.trans d2).up (by rw [pw2]; omega))⟩
  have arg : ∀ m : Nat, [D.ref a, .str x, .int (((m + 1 : Nat) : Int) - 1)] ++ [] = [D.ref a, .str x, .int (m : Nat)] := fun m => by
    rw [show (((m + 1 : Nat) : Int) - 1) = (m : Int) by omega]; rfl
  refine ⟨_, rfl, decide (((m + 1 : Nat) : Int) = 1), rfl, ?_⟩
  by_cases hm : ((m + 1 : Nat) : Int) = 1
  · rw [decide_eq_true hm]
    exact ⟨_, rfl, _, rfl, leafgo⟩
  rw [decide_eq_false hm]
  refine ⟨_, rfl, decide (d < 2), rfl, ?_⟩
  by_cases h2 : d < 2
  · rw [decide_eq_true h2]
    exact ⟨_, rfl, _, rfl, leafgo⟩
  rw [decide_eq_false h2]
  refine ⟨_, rfl, decide (d = 2), rfl, ?_⟩
  by_cases h3 : d = 2
  · rw [decide_eq_true h3]
    refine ⟨_, rfl, _, rfl, _, rfl, _, _, rfl, rfl, trivial, a, x, m, c + 1, arg m, by omega, by omega, d1.1, by omega, hx, fx, fun t M2 dt d2 => ⟨small (by simp), ?_⟩⟩
    exact q _ _ (dn_star dt) ((d1.trans d2).up (by rw [pw2]; omega))
  · rw [decide_eq_false h3]
    obtain ⟨o, et⟩ := two_words (d := d % 2) (Int.emod_nonneg _ (by decide)) (Int.emod_lt_of_pos _ (by decide))
    refine ⟨small (by simp), newTr ⟨_, rfl, _, _, rfl, rfl, (by decide : (0 : Int) < 2), _, _, rfl, et, ?_⟩⟩
    refine ⟨_, rfl, _, rfl, _, rfl, _, _, rfl, rfl, trivial, a, x, m, c + 1, arg m, by omega, by omega, d1.1, by omega, hx, fx, fun t1 M2 dt1 d2 => ?_⟩
    refine ⟨_, rfl, _, rfl, _, rfl, _, _, rfl, rfl, trivial, a, x, m, c + 1 + (12 * 2 ^ m - 1), arg m, by omega, by omega, d2.1, by omega, hx, fx, fun t2 M3 dt2 d3 => ⟨small (by simp), ?_⟩⟩
    exact q _ _ (dn_pair dt1 dt2) (((d1.trans d2).trans d3).up (by rw [pw2]; omega))
end K02

set_option maxHeartbeats 4000000
/-! K02e: types as they are written. -/
namespace K02
open PySem PySem.Spec DL KB
open L2 (atI ixN)
open PyProof.Rows hiding St signs

theorem ix2 {x y z : DL.D} {r : List DL.D} : atI (x :: y :: z :: r) 2 = some z := L2.atI_nat (j := 2) rfl
theorem addS {u v : Str} {a b : List Nat} {M : Mp} {Q : DK} (hu : u = S a) (hv : v = S b) (l : a.length + b.length ≤ 100000) (q : Q (.str (S (a ++ b))) M) : rAddD true (.str u) (.str v) M Q := by
  subst hu hv
  exact add_strs (by simpa using l) (by rw [S_app]; exact q)
def sp_sh : DS1 := fun ds M Q => ∃ x : List Nat, ds = [.str (S x)] ∧ x.length ≤ 100000 ∧ Q (.str (S (swp x))) M
theorem rep_ok {x : List Nat} {z : Str} (h : x.length ≤ 100000) (hz : z.length = 1) : (S x).length + ((S x).length + 1) * z.length ≤ 16777216 := by
  rw [S_len, hz]; omega
theorem rd_sh : ∀ ds M Q, sp_sh ds M Q → ds.length = 1 ∧ r_signs_shown { nx := fun _ M' => Q .non M', rt := Q } (dstart N_signs_shown ds) M := by
  rintro _ M Q ⟨x, rfl, hx, q⟩
  refine ⟨rfl, _, rfl, S x, rfl, rep_ok hx rfl, ?_⟩
  rw [rep_shown]
  exact q
def sp_shown (N : Nat) : DS1 := fun ds M Q => ∃ t : Ty, ds = [t.d] ∧ t.ok = true ∧ t.hi < N ∧ t.sh.length ≤ 50000 ∧ Q (.str (S t.sh)) M
theorem eq_op {a b : Str} {M : Mp} {G : Bool → Mp → Prop} (q : G (decide (a = b)) M) : rEqD2 false (.str a) (.str b) M fun d M1 => ∃ v, d = .bl v ∧ G v M1 := ⟨_, rfl, q⟩
theorem rd_shown (N : Nat) : ∀ ds M Q, sp_shown (N + 1) ds M Q → ds.length = 1 ∧ r_shown sp_sh (sp_shown N) { nx := fun _ M' => Q .non M', rt := Q } (dstart N_shown ds) M := by
  rintro _ M Q ⟨t, rfl, o, hN, hl, q⟩
  refine ⟨rfl, ?_⟩
  cases t with
  | leaf s x =>
    obtain ⟨lx, _⟩ := lf_ok o
    refine ⟨_, rfl, _, _, rfl, ix0, ?_⟩
    cases s with
    | false =>
      refine ⟨_, rfl, decide (wd false = "text"), rfl, ?_⟩
      rw [decide_eq_true (by rfl)]
      refine ⟨_, rfl, _, _, rfl, ix1, x, rfl, by omega, ?_⟩
      refine addS (a := [39]) rfl rfl (by rw [swp_len]; simp; omega) ?_
      refine addS (b := [39]) rfl rfl (by simp [swp_len]; omega) ?_
      exact q
    | true =>
      refine ⟨_, rfl, decide (wd true = "text"), rfl, ?_⟩
      rw [decide_eq_false (by decide)]
      refine ⟨_, rfl, decide (wd true = "sign"), rfl, ?_⟩
      rw [decide_eq_true (by rfl)]
      refine ⟨_, rfl, _, _, rfl, ix1, x, rfl, by omega, ?_⟩
      refine addS (a := [91]) rfl rfl (by rw [swp_len]; simp; omega) ?_
      refine addS (b := [93]) rfl rfl (by simp [swp_len]; omega) ?_
      exact q
  | star t =>
    have l2 : t.sh.length + 1 ≤ 50000 := by simpa [Ty.sh] using hl
    simp only [Ty.hi] at hN
    refine ⟨_, rfl, _, _, rfl, ix0, ?_⟩
    refine ⟨_, rfl, decide (("star" : Str) = "text"), rfl, ?_⟩
    rw [decide_eq_false (by decide)]
    refine ⟨_, rfl, decide (("star" : Str) = "sign"), rfl, ?_⟩
    rw [decide_eq_false (by decide)]
    refine ⟨_, rfl, decide (("star" : Str) = "star"), rfl, ?_⟩
    rw [decide_eq_true (by rfl)]
    refine ⟨_, rfl, _, _, rfl, ix1, t, rfl, o, by omega, by omega, ?_⟩
    refine addS (b := [42]) rfl rfl (by simp; omega) ?_
    exact q
  | pair p a b =>
    have l2 : a.sh.length + b.sh.length + 3 ≤ 50000 := by simp [Ty.sh] at hl; omega
    simp only [Ty.hi] at hN
    simp only [Ty.ok, Bool.and_eq_true] at o
    refine ⟨_, rfl, _, _, rfl, ix0, ?_⟩
    refine ⟨_, rfl, decide (pw p = "text"), rfl, ?_⟩
    rw [decide_eq_false (by cases p <;> decide)]
    refine ⟨_, rfl, decide (pw p = "sign"), rfl, ?_⟩
    rw [decide_eq_false (by cases p <;> decide)]
    refine ⟨_, rfl, decide (pw p = "star"), rfl, ?_⟩
    rw [decide_eq_false (by cases p <;> decide)]
    refine ⟨_, rfl, _, _, rfl, ix1, a, rfl, o.1, by omega, by omega, ?_⟩
    refine addS (a := [40]) rfl rfl (by simp; omega) ?_
    refine ⟨_, rfl, decide (pw p = "cat"), rfl, ?_⟩
    have fin : rAddD true (.str (S ([40] ++ a.sh))) (.str (S [sep p])) M fun d M1 => (dCall1 (sp_shown N) (dCons (dOp DL.rIxD (dSlot 0) (dC v_PAIR)) dNil)) ((dstart N_shown [Ty.d (.pair p a b)]).set 1 (some (.str (pw p)))) M1 fun e M2 => rAddD true d e M2 fun d M3 => rAddD true d (.str ")") M3 Q := by
      refine addS rfl rfl (by simp; omega) ?_
      refine ⟨_, rfl, _, _, rfl, ix2, b, rfl, o.2, by omega, by omega, ?_⟩
      refine addS rfl rfl (by simp; omega) ?_
      refine addS (b := [41]) rfl rfl (by simp; omega) ?_
      have e : [40] ++ a.sh ++ [sep p] ++ b.sh ++ [41] = (Ty.pair p a b).sh := by simp [Ty.sh]
      rw [e]
      exact q
    cases p with
    | false => exact fin
    | true => exact fin
theorem rd_lshown (N : Nat) : ∀ ds M Q, sp_shown (N + 1) ds M Q → ds.length = 1 ∧ r__law_shown (sp_shown N) { nx := fun _ M' => Q .non M', rt := Q } (dstart N__law_shown ds) M := by
  rintro _ M Q ⟨t, rfl, o, hN, hl, q⟩
  refine ⟨rfl, ?_⟩
  have inL : ∀ {x : Str} {G : Bool → Mp → Prop}, G (decide (x ∈ LV)) M → DL.rInD false (.str x) (.tup [.str "text", .str "sign"]) M fun d M1 => ∃ v, d = .bl v ∧ G v M1 := by
    intro x G h
    exact in_texts (ws := LV) ⟨_, rfl, h⟩
  cases t with
  | leaf s x =>
    obtain ⟨lx, _⟩ := lf_ok o
    refine ⟨_, rfl, _, _, rfl, ix0, ?_⟩
    refine ⟨_, rfl, small (by simp), inL ?_⟩
    rw [decide_eq_true (by cases s <;> decide)]
    refine ⟨_, rfl, _, _, rfl, ix1, S x, rfl, rep_ok (by omega) rfl, ?_⟩
    rw [rep_shown]
    refine ⟨_, rfl, decide (wd s = "text"), rfl, ?_⟩
    cases s with
    | false =>
      rw [decide_eq_true (by rfl)]
      refine ⟨_, rfl, addS (a := [39]) rfl rfl (by rw [swp_len]; simp; omega) ?_⟩
      refine addS (b := [39]) rfl rfl (by simp [swp_len]; omega) ?_
      exact q
    | true =>
      rw [decide_eq_false (by decide)]
      refine ⟨_, rfl, addS (a := [91]) rfl rfl (by rw [swp_len]; simp; omega) ?_⟩
      refine addS (b := [93]) rfl rfl (by simp [swp_len]; omega) ?_
      exact q
  | star t =>
    have l2 : t.sh.length + 1 ≤ 50000 := by simpa [Ty.sh] using hl
    simp only [Ty.hi] at hN
    refine ⟨_, rfl, _, _, rfl, ix0, ?_⟩
    refine ⟨_, rfl, small (by simp), inL ?_⟩
    rw [decide_eq_false (by decide)]
    refine ⟨_, rfl, decide (("star" : Str) = "star"), rfl, ?_⟩
    rw [decide_eq_true (by rfl)]
    refine ⟨_, rfl, _, _, rfl, ix1, t, rfl, o, by omega, by omega, ?_⟩
    refine addS (b := [42]) rfl rfl (by simp; omega) ?_
    exact q
  | pair p a b =>
    have l2 : a.sh.length + b.sh.length + 3 ≤ 50000 := by simp [Ty.sh] at hl; omega
    simp only [Ty.hi] at hN
    simp only [Ty.ok, Bool.and_eq_true] at o
    refine ⟨_, rfl, _, _, rfl, ix0, ?_⟩
    refine ⟨_, rfl, small (by simp), inL ?_⟩
    rw [decide_eq_false (by cases p <;> decide)]
    refine ⟨_, rfl, decide (pw p = "star"), rfl, ?_⟩
    rw [decide_eq_false (by cases p <;> decide)]
    refine ⟨_, rfl, _, _, rfl, ix1, a, rfl, o.1, by omega, by omega, ?_⟩
    refine addS (a := [40]) rfl rfl (by simp; omega) ?_
    refine ⟨_, rfl, decide (pw p = "cat"), rfl, ?_⟩
    have fin : rAddD true (.str (S ([40] ++ a.sh))) (.str (S [sep p])) M fun d M1 => (dCall1 (sp_shown N) (dCons (dOp DL.rIxD (dSlot 0) (dC (.int 2))) dNil)) ((dstart N__law_shown [Ty.d (.pair p a b)]).set 1 (some (.str (pw p)))) M1 fun e M2 => rAddD true d e M2 fun d M3 => rAddD true d (.str ")") M3 Q := by
      refine addS rfl rfl (by simp; omega) ?_
      refine ⟨_, rfl, _, _, rfl, ix2, b, rfl, o.2, by omega, by omega, ?_⟩
      refine addS rfl rfl (by simp; omega) ?_
      refine addS (b := [41]) rfl rfl (by simp; omega) ?_
      have e : [40] ++ a.sh ++ [sep p] ++ b.sh ++ [41] = (Ty.pair p a b).sh := by simp [Ty.sh]
      rw [e]
      exact q
    cases p with
    | false => exact fin
    | true => exact fin
/-! ### checked -/
def sp_check : DSp := fun ds M Q E => ∃ v, ds = [v] ∧ gd v = true ∧ dep v ≤ 62 ∧ (countT 30 v ≤ 120 → Q .non M) ∧ (¬ countT 30 v ≤ 120 → E "BadType" v M)
theorem rd_check : ∀ ds M Q E, sp_check ds M Q E → ds.length = 1 ∧ r_check_type E sp_type { nx := fun _ M' => Q .non M', rt := Q } (dstart N_check_type ds) M := by
  rintro _ M Q E ⟨v, rfl, g, d, q, e⟩
  refine ⟨rfl, _, rfl, v, rfl, g, d, _, rfl, ?_⟩
  by_cases h : countT 30 v ≤ 120
  · rw [decide_eq_true h]; exact q h
  · rw [decide_eq_false h]; exact ⟨_, rfl, e h⟩
def sp_ttext : DSp := fun ds M Q E => (∃ t : Ty, ds = [t.d] ∧ Dn 4 t ∧ Q (.str (S t.sh)) M) ∨ ∃ v, ds = [v] ∧ gd v = true ∧ dep v ≤ 62 ∧ ¬ countT 30 v ≤ 120 ∧ E "BadType" v M
theorem rd_ttext : ∀ ds M Q E, sp_ttext ds M Q E → ds.length = 1 ∧ r_type_text E sp_check (sp_shown 40) { nx := fun _ M' => Q .non M', rt := Q } (dstart N_type_text ds) M := by
  rintro _ M Q E (⟨t, rfl, h, q⟩ | ⟨v, rfl, g, d, n, e⟩)
  · have l := h.len
    have hi := h.hi
    have nn := h.nodes
    have c : countT 30 t.d ≤ 120 := by rw [ty_count h.ok (by omega)]; omega
    refine ⟨rfl, _, rfl, t.d, rfl, ty_gd h.ok, by rw [ty_dep]; omega, fun _ => ?_, fun z => absurd c z⟩
    exact ⟨_, rfl, t, rfl, h.ok, by omega, by omega, q⟩
  · exact ⟨rfl, _, rfl, v, rfl, g, d, fun z => absurd z n, fun _ => e⟩
end K02

set_option maxHeartbeats 4000000
/-! K02f: the reader's methods: __init__, is_next, row_to, leaf. -/
namespace K02
open PySem PySem.Spec DL KB
open L2 (atI ixN)
open PyProof.Rows hiding St signs

/-- the reader's fields -/
def objF (x : List Nat) (p : Nat) (d : Int) : List (Str × DL.D) := [("text", .str (S x)), ("at", .int p), ("deep", .int d)]
/-- the reader at a, all else as in M -/
def ob (M : Mp) (a : Addr) (x : List Nat) (p : Nat) (d : Int) : Mp := mu M a (.obj "TypeText" (objF x p d))
theorem ob_at {M : Mp} {a : Addr} {x : List Nat} {p : Nat} {d : Int} : ob M a x p d a = some (.obj "TypeText" (objF x p d)) := mu_same
theorem put_at {x : List Nat} {p q : Nat} {d : Int} : putD "at" (.int q) (objF x p d) = objF x q d := by rfl
theorem put_deep {x : List Nat} {p : Nat} {d e : Int} : putD "deep" (.int e) (objF x p d) = objF x p e := by rfl
theorem ob_ob {M : Mp} {a : Addr} {x y : List Nat} {p q : Nat} {d e : Int} : mu (ob M a x p d) a (.obj "TypeText" (objF y q e)) = ob M a y q e := mu_mu
theorem look_text {x : List Nat} {p : Nat} {d : Int} : (objF x p d).lookup ("text" : Str) = some (D.str (S x)) := by rfl
theorem look_at {x : List Nat} {p : Nat} {d : Int} : (objF x p d).lookup ("at" : Str) = some (D.int p) := by rfl
theorem look_deep {x : List Nat} {p : Nat} {d : Int} : (objF x p d).lookup ("deep" : Str) = some (D.int d) := by rfl
/-- a field that is read -/
theorem fld {t : DTE} {ρ : Rho} {M : Mp} {a : Addr} {x : List Nat} {p : Nat} {d : Int} {f : Str} {v : DL.D} {Q : DK} (ht : ∀ Q' : DK, Q' (.ref a) (ob M a x p d) → t ρ (ob M a x p d) Q') (l : (objF x p d).lookup f = some v) (q : Q v (ob M a x p d)) :
    dFld "TypeText" f t ρ (ob M a x p d) Q := ht _ ⟨a, objF x p d, v, rfl, ob_at, l, q⟩
/-- the place is set -/
theorem setAt {t tv : DTE} {ρ : Rho} {M M' : Mp} {a : Addr} {x : List Nat} {p q : Nat} {d : Int} {D : DEnds} (hv : ∀ Q' : DK, Q' (.int q) (ob M a x p d) → tv ρ M' Q') (ht : ∀ Q' : DK, Q' (.ref a) (ob M a x p d) → t ρ (ob M a x p d) Q') (h : D.nx ρ (ob M a x q d)) :
    dSetF "TypeText" "at" t tv D ρ M' := hv _ (ht _ ⟨a, objF x p d, rfl, ob_at, (by show 3 < 1000; decide), by rw [put_at, ob_ob]; exact h⟩)
theorem setDeep {t tv : DTE} {ρ : Rho} {M M' : Mp} {a : Addr} {x : List Nat} {p : Nat} {d e : Int} {D : DEnds} (hv : ∀ Q' : DK, Q' (.int e) (ob M a x p d) → tv ρ M' Q') (ht : ∀ Q' : DK, Q' (.ref a) (ob M a x p d) → t ρ (ob M a x p d) Q') (h : D.nx ρ (ob M a x p e)) :
    dSetF "TypeText" "deep" t tv D ρ M' := hv _ (ht _ ⟨a, objF x p d, rfl, ob_at, (by show 3 < 1000; decide), by rw [put_deep, ob_ob]; exact h⟩)
/-! ### __init__ -/
def sp_init : DS1 := fun ds M Q => ∃ (M0 : Mp) (a : Addr) (x : List Nat), ds = [.ref a, .str (S x)] ∧ M = mu M0 a (.obj "TypeText" []) ∧ Q .non (ob M0 a x 0 0)
theorem rd_init : ∀ ds M Q, sp_init ds M Q → ds.length = 2 ∧ r_TypeText_init { nx := fun _ M' => Q .non M', rt := Q } (dstart N_TypeText_init ds) M := by
  rintro _ M Q ⟨M0, a, x, rfl, rfl, q⟩
  refine ⟨rfl, ?_⟩
  refine ⟨_, rfl, _, rfl, a, _, rfl, mu_same, (by show 0 < 1000; decide), ?_⟩
  refine ⟨_, rfl, a, _, rfl, mu_same, (by show 1 < 1000; decide), ?_⟩
  refine ⟨_, rfl, a, _, rfl, mu_same, (by show 2 < 1000; decide), ?_⟩
  rw [mu_mu, mu_mu, mu_mu]
  exact q
/-! ### is_next -/
theorem cut_two {α : Type} (xs : List α) {k m : Nat} (h : k ≤ m) : DL.cutD xs (some (k : Int)) (some (m : Int)) = (xs.drop k).take (m - k) := by
  unfold DL.cutD
  rw [HT.sIx_nat, HT.sIx_nat]
  by_cases h2 : m ≤ xs.length
  · rw [Nat.min_eq_left h2, Nat.min_eq_left (by omega)]
  · by_cases h3 : k ≤ xs.length
    · rw [Nat.min_eq_right (by omega), Nat.min_eq_left h3, List.take_of_length_le (by rw [List.length_drop]; omega), List.take_of_length_le (by rw [List.length_drop]; omega)]
    · rw [Nat.min_eq_right (show xs.length ≤ k by omega), List.drop_length, List.drop_of_length_le (by omega)]
      simp
theorem cutS_two (x : List Nat) {k m : Nat} (h : k ≤ m) : L2.cutS (S x) (some (k : Int)) (some (m : Int)) = S ((x.drop k).take (m - k)) := by
  rw [← cut_two x h]
  unfold L2.cutS DL.cutD
  rw [S_len]
theorem take_one (x : List Nat) (p c : Nat) : decide (S ((x.drop p).take (p + 1 - p)) = S [c]) = nx x p c := by
  unfold nx
  rw [show p + 1 - p = 1 by omega]
  by_cases h : p < x.length
  · rw [List.drop_eq_getElem_cons h, List.take_succ_cons, List.take_zero, List.getElem?_eq_getElem h]
    by_cases e : x[p] = c
    · rw [decide_eq_true (by rw [e]), decide_eq_true (by rw [e])]
    · rw [decide_eq_false (fun z => e (List.cons.inj (S_inj z)).1), decide_eq_false (fun z => e (Option.some.inj z))]
  · rw [List.drop_of_length_le (by omega), List.getElem?_eq_none (by omega)]
    rw [decide_eq_false (fun z => by cases S_inj z), decide_eq_false (fun z => nomatch z)]
def sp_next : DS1 := fun ds M Q => ∃ (M0 : Mp) (a : Addr) (x : List Nat) (p : Nat) (d : Int) (c : Nat) (s : Str), ds = [.ref a, .str s] ∧ s = S [c] ∧ M = ob M0 a x p d ∧ x.length ≤ 50000 ∧ Q (.bl (nx x p c)) (ob M0 a x (p + one (nx x p c)) d)
theorem rd_next : ∀ ds M Q, sp_next ds M Q → ds.length = 2 ∧ r_TypeText_is_next { nx := fun _ M' => Q .non M', rt := Q } (dstart N_TypeText_is_next ds) M := by
  rintro _ M Q ⟨M0, a, x, p, d, c, _, rfl, rfl, rfl, hx, q⟩
  refine ⟨rfl, ?_⟩
  refine fld (fun Q' h => ⟨_, rfl, h⟩) look_text ?_
  refine fld (fun Q' h => ⟨_, rfl, h⟩) look_at ?_
  refine ⟨_, rfl, ?_⟩
  refine fld (fun Q' h => ⟨_, rfl, h⟩) look_at ?_
  refine ⟨_, rfl, small (by rw [S_len]; omega), ?_⟩
  rw [show ((p : Nat) : Int) + 1 = ((p + 1 : Nat) : Int) from rfl, cutS_two x (by omega)]
  refine ⟨_, rfl, ?_⟩
  have h1 := take_one x p c
  generalize S ((x.drop p).take (p + 1 - p)) = s1 at h1 ⊢
  show (dSeq (dSetF "TypeText" "at" (dSlot 0) (dOp (rAddD true) (dFld "TypeText" "at" (dSlot 0)) (dCB rIntD (dCons (dSlot 2) dNil)))) (dRet (dSlot 2))) _ [some (.ref a), some (.str (S [c])), some (.bl (decide (s1 = S [c])))] _
  rw [h1]
  refine setAt (M := M0) (a := a) (x := x) (p := p) (d := d) (q := p + one (nx x p c)) (fun Q' h => ?_) (fun Q' h => ⟨_, rfl, h⟩) ⟨_, rfl, q⟩
  refine fld (fun Q' h => ⟨_, rfl, h⟩) look_at ?_
  refine ⟨_, rfl, ?_⟩
  cases e : nx x p c with
  | true => rw [e] at h; exact h
  | false => rw [e] at h; exact h
end K02

set_option maxHeartbeats 4000000
/-! K02g: the reader's methods: row_to, leaf. -/
namespace K02
open PySem PySem.Spec DL KB
open L2 (atI ixN)
open PyProof.Rows hiding St signs

theorem tw_lt {f : Nat → Bool} : ∀ {l : List Nat} {i : Nat}, i < (l.takeWhile f).length → ∃ b, l[i]? = some b ∧ f b = true
  | [], i, h => by simp at h
  | a :: l, i, h => by
    rw [List.takeWhile_cons] at h
    split at h
    · rename_i hf
      cases i with
      | zero => exact ⟨a, rfl, hf⟩
      | succ i =>
        obtain ⟨b, e, g⟩ := tw_lt (l := l) (i := i) (by simpa using h)
        exact ⟨b, by simpa using e, g⟩
    · simp at h
theorem tw_end {f : Nat → Bool} : ∀ l : List Nat, l[(l.takeWhile f).length]? = none ∨ ∃ b, l[(l.takeWhile f).length]? = some b ∧ f b = false
  | [] => .inl rfl
  | a :: l => by
    rw [List.takeWhile_cons]
    split
    · rename_i hf
      rcases tw_end (f := f) l with h | ⟨b, h, g⟩
      · exact .inl (by simpa using h)
      · exact .inr ⟨b, by simpa using h, g⟩
    · rename_i hf
      exact .inr ⟨a, rfl, by simpa using hf⟩
theorem run_lt {x : List Nat} {p q c : Nat} (h1 : p ≤ q) (h2 : q < runTo x p c) : ∃ b, x[q]? = some b ∧ b ≠ c := by
  obtain ⟨i, rfl⟩ : ∃ i, q = p + i := ⟨q - p, by omega⟩
  unfold runTo at h2
  obtain ⟨b, e, g⟩ := tw_lt (l := x.drop p) (i := i) (f := (· != c)) (by omega)
  rw [List.getElem?_drop] at e
  exact ⟨b, e, by simpa using g⟩
theorem run_end (x : List Nat) (p c : Nat) : x[runTo x p c]? = none ∨ x[runTo x p c]? = some c := by
  unfold runTo
  rcases tw_end (f := (· != c)) (x.drop p) with h | ⟨b, h, g⟩
  · rw [List.getElem?_drop] at h; exact .inl h
  · rw [List.getElem?_drop] at h
    have e : b = c := by simpa using g
    rw [e] at h
    exact .inr h
theorem run_ge (x : List Nat) (p c : Nat) : p ≤ runTo x p c := Nat.le_add_right _ _
theorem take_run (x : List Nat) (p c : Nat) : (x.drop p).take (runTo x p c - p) = rowOf x p c := by
  have h := run_split x p c
  have e : runTo x p c - p = (rowOf x p c).length := by unfold runTo rowOf; omega
  rw [e]
  conv => lhs; rw [h]
  exact List.take_left
theorem take_run1 {x : List Nat} {p c : Nat} (h : nx x (runTo x p c) c = true) : (x.drop p).take (runTo x p c + 1 - p) = rowOf x p c ++ [c] := by
  have h2 := run_split x p c
  rw [nx_drop h] at h2
  have e : runTo x p c + 1 - p = (rowOf x p c ++ [c]).length := by
    unfold runTo rowOf
    rw [List.length_append, List.length_singleton]
    omega
  rw [e]
  conv => lhs; rw [h2]
  rw [show rowOf x p c ++ c :: x.drop (runTo x p c + 1) = (rowOf x p c ++ [c]) ++ x.drop (runTo x p c + 1) by simp]
  exact List.take_left
theorem row_len (x : List Nat) (p c : Nat) : (rowOf x p c).length ≤ x.length := by
  have h := congrArg List.length (run_split x p c)
  rw [List.length_append, List.length_drop] at h
  omega
def rD : Option (List Nat) → DL.D
  | none => .non
  | some r => .str (S r)
def sp_row : DS1 := fun ds M Q => ∃ (M0 : Mp) (a : Addr) (x : List Nat) (p : Nat) (d : Int) (c : Nat) (s : Str), ds = [.ref a, .str s] ∧ s = S [c] ∧ c ≠ 10 ∧ M = ob M0 a x p d ∧ x.length ≤ 50000 ∧ Q (rD (rowP x c p).1) (ob M0 a x (rowP x c p).2 d)
theorem rd_row : ∀ ds M Q, sp_row ds M Q → ds.length = 2 ∧ r_TypeText_row_to sp_next { nx := fun _ M' => Q .non M', rt := Q } (dstart N_TypeText_row_to ds) M := by
  rintro _ M Q ⟨M0, a, x, p, d, c, _, rfl, rfl, c10, rfl, hx, q⟩
  refine ⟨rfl, ?_⟩
  refine fld (fun Q' h => ⟨_, rfl, h⟩) look_at ?_
  refine ⟨fun m ρ M => ∃ q : Nat, ρ = [some (.ref a), some (.str (S [c])), some (.int p), none] ∧ M = ob M0 a x q d ∧ p ≤ q ∧ q ≤ runTo x p c ∧ m = runTo x p c - q, ⟨_, p, rfl, rfl, Nat.le_refl _, run_ge _ _ _, rfl⟩, ?_⟩
  rintro m ρ M ⟨r, rfl, rfl, h1, h2, rfl⟩
  refine fld (fun Q' h => ⟨_, rfl, h⟩) look_at ?_
  refine fld (fun Q' h => ⟨_, rfl, h⟩) look_text ?_
  refine ⟨small (by rw [S_len]; omega), _, rfl, ?_⟩
  -- what comes behind the loop
  have fin : ∀ (D : DEnds), D = { nx := fun _ M' => Q .non M', rt := Q } → r = runTo x p c → (dSeq (dAsg (dRep "/" "\x0a" (dSl true (dFld "TypeText" "text" (dSlot 0)) (dPart (dSlot 2)) (dPart (dFld "TypeText" "at" (dSlot 0))))) (dgName 3)) (dSeq (dIfS (dOrT (dNotT (dB (dMeth "TypeText" "is_next" sp_next (dSlot 0) (dCons (dSlot 1) dNil)))) (dB (dOp (rInD false) (dC v_FEED) (dSl true (dFld "TypeText" "text" (dSlot 0)) (dPart (dSlot 2)) (dPart (dFld "TypeText" "at" (dSlot 0))))))) (dRet (dC .non)) dNext) (dRet (dSlot 3)))) D [some (.ref a), some (.str (S [c])), some (.int p), none] (ob M0 a x r d) := by
    rintro D rfl rfl
    refine fld (fun Q' h => ⟨_, rfl, h⟩) look_text ?_
    refine ⟨_, rfl, _, rfl, ?_⟩
    refine fld (fun Q' h => ⟨_, rfl, h⟩) look_at ?_
    refine ⟨_, rfl, small (by rw [S_len]; omega), ?_⟩
    rw [cutS_two x (run_ge x p c), take_run]
    refine ⟨_, rfl, rep_ok (Nat.le_trans (row_len x p c) (by omega)) rfl, ?_⟩
    rw [rep_read]
    refine ⟨_, rfl, a, _, rfl, ob_at, rfl, ?_⟩
    refine ⟨_, rfl, M0, a, x, _, d, c, _, rfl, rfl, rfl, hx, _, rfl, ?_⟩
    unfold rowP at q
    cases hn : nx x (runTo x p c) c with
    | false =>
      rw [hn] at q
      exact q
    | true =>
      rw [hn] at q
      simp only [if_true] at q
      show (dB (dOp (DL.rInD false) (dC v_FEED) (dSl true (dFld "TypeText" "text" (dSlot 0)) (dPart (dSlot 2)) (dPart (dFld "TypeText" "at" (dSlot 0)))))) _ (ob M0 a x (runTo x p c + 1) d) _
      refine fld (fun Q' h => ⟨_, rfl, h⟩) look_text ?_
      refine ⟨_, rfl, _, rfl, ?_⟩
      refine fld (fun Q' h => ⟨_, rfl, h⟩) look_at ?_
      refine ⟨_, rfl, small (by rw [S_len]; omega), ?_⟩
      rw [cutS_two x (Nat.le_succ_of_le (run_ge x p c)), take_run1 hn]
      refine ⟨10, rfl, _, rfl, ?_⟩
      have e : decide (10 ∈ (S (rowOf x p c ++ [c])).cps.toList) = (rowOf x p c).contains 10 := by
        rw [S_list]
        simp [Ne.symm c10]
      show (if decide (10 ∈ (S (rowOf x p c ++ [c])).cps.toList) = true then _ else _)
      rw [e]
      cases hc : (rowOf x p c).contains 10 with
      | true => rw [hc] at q; exact q
      | false => rw [hc] at q; exact ⟨_, rfl, q⟩
  by_cases he : r = runTo x p c
  · rcases run_end x p c with hn | hs
    · have hl : ¬ ((r : Nat) : Int) < ((S x).length : Nat) := by
        rw [S_len, he]
        have := List.getElem?_eq_none_iff.mp hn
        omega
      show (if decide (((r : Nat) : Int) < ((S x).length : Nat)) = true then _ else _)
      rw [decide_eq_false hl]
      exact fin _ rfl he
    · have hl : ((r : Nat) : Int) < ((S x).length : Nat) := by
        rw [S_len, he]
        have := (List.getElem?_eq_some_iff.mp hs).1
        omega
      show (if decide (((r : Nat) : Int) < ((S x).length : Nat)) = true then _ else _)
      rw [decide_eq_true hl, if_pos rfl]
      refine fld (fun Q' h => ⟨_, rfl, h⟩) look_text ?_
      refine fld (fun Q' h => ⟨_, rfl, h⟩) look_at ?_
      refine ⟨small (by rw [S_len]; omega), c, L2.atI_nat (by rw [S_list, he]; exact hs), ?_⟩
      refine ⟨_, rfl, _, rfl, ?_⟩
      show (if (!decide (S [c] = S [c])) = true then _ else _)
      rw [decide_eq_true rfl]
      exact fin _ rfl he
  · obtain ⟨b, hs, ne⟩ := run_lt h1 (by omega : r < runTo x p c)
    have hl : ((r : Nat) : Int) < ((S x).length : Nat) := by
      rw [S_len]
      have := (List.getElem?_eq_some_iff.mp hs).1
      omega
    show (if decide (((r : Nat) : Int) < ((S x).length : Nat)) = true then _ else _)
    rw [decide_eq_true hl, if_pos rfl]
    refine fld (fun Q' h => ⟨_, rfl, h⟩) look_text ?_
    refine fld (fun Q' h => ⟨_, rfl, h⟩) look_at ?_
    refine ⟨small (by rw [S_len]; omega), b, L2.atI_nat (by rw [S_list]; exact hs), ?_⟩
    refine ⟨_, rfl, _, rfl, ?_⟩
    show (if (!decide (S [b] = S [c])) = true then _ else _)
    rw [decide_eq_false (fun z => ne (List.cons.inj (S_inj z)).1)]
    refine ⟨fun ρ M => ρ = [some (.ref a), some (.str (S [c])), some (.int p), none] ∧ M = ob M0 a x (r + 1) d, ?_, ?_⟩
    · rintro ρ' M' ⟨rfl, rfl⟩
      exact ⟨runTo x p c - (r + 1), by omega, r + 1, rfl, rfl, by omega, by omega, rfl⟩
    · refine setAt (M := M0) (a := a) (x := x) (p := r) (d := d) (q := r + 1) (fun Q' h => ?_) (fun Q' h => ⟨_, rfl, h⟩) ⟨rfl, rfl⟩
      exact fld (fun Q' h => ⟨_, rfl, h⟩) look_at h
/-! ### leaf -/
def sp_lf : DS1 := fun ds M Q => ∃ (M0 : Mp) (a : Addr) (x : List Nat) (p : Nat) (d : Int) (s : Bool) (u v : Str), ds = [.ref a, .str u, .str v] ∧ u = wd s ∧ v = S [cls s] ∧ M = ob M0 a x p d ∧ x.length ≤ 50000 ∧ Q (oD (leafP x s p).1) (ob M0 a x (leafP x s p).2 d)
theorem rowP_len {x : List Nat} {c p q : Nat} {r : List Nat} (h : rowP x c p = (some r, q)) : r.length ≤ x.length := by
  unfold rowP at h
  split at h
  · split at h
    · cases h
    · cases h
      unfold bck
      rw [List.length_map]
      exact row_len x p c
  · cases h
theorem rd_lf : ∀ ds M Q, sp_lf ds M Q → ds.length = 3 ∧ r_TypeText_leaf sp_row sp_leaf { nx := fun _ M' => Q .non M', rt := Q } (dstart N_TypeText_leaf ds) M := by
  rintro _ M Q ⟨M0, a, x, p, d, s, _, _, rfl, rfl, rfl, rfl, hx, q⟩
  refine ⟨rfl, ?_⟩
  refine ⟨_, rfl, a, _, rfl, ob_at, rfl, ?_⟩
  refine ⟨_, rfl, M0, a, x, p, d, cls s, _, rfl, rfl, by cases s <;> decide, rfl, hx, ?_⟩
  unfold leafP at q
  cases e : rowP x (cls s) p with
  | mk o r =>
    rw [e] at q
    cases o with
    | none => exact ⟨_, rfl, rfl, _, rfl, q⟩
    | some y =>
      simp only at q
      have ly := rowP_len e
      refine ⟨_, rfl, rfl, _, rfl, ?_⟩
      refine ⟨_, rfl, _, rfl, small (by simp), wd s, .str (S y), [], rfl, ?_, _, rfl, ?_⟩
      · show decide ((S y).cps.size ≤ 100000) = true
        rw [S_size]
        exact decide_eq_true (by omega)
      · show (if (!lfB s y) = true then _ else _)
        cases h : lfB s y with
        | true =>
          rw [h] at q
          exact ⟨_, rfl, _, rfl, small (by simp), q⟩
        | false => rw [h] at q; exact q
end K02

set_option maxHeartbeats 4000000
/-! K02h: the reader's methods: couple, node; read_type. -/
namespace K02
open PySem PySem.Spec DL KB
open L2 (atI ixN)
open PyProof.Rows hiding St signs

theorem ty_ne (t : Ty) : isNon t.d = false := by cases t <;> rfl
theorem rest_d {x : List Nat} {nd : Nat → Int → Option Ty × Nat × Int} (h : ∀ p d, d ≤ (nd p d).2.2) (o : Option Ty) (b b' : Bool) (p : Nat) (d : Int) : d ≤ (restP nd x o b b' p d).2.2 := by
  unfold restP
  cases o with
  | none => exact Int.le_refl _
  | some a =>
    simp only
    split
    · cases e2 : (nd p d).1 with
      | none => exact h p d
      | some b =>
        simp only
        split <;> exact h p d
    · exact Int.le_refl _
theorem node_d {x : List Nat} : ∀ (n p : Nat) (d : Int), d ≤ (nodeP x n p d).2.2
  | 0, p, d => by show d ≤ d + 1; omega
  | n + 1, p, d => by
    unfold nodeP
    split
    · show d ≤ d + 1; omega
    · have hd : d + 1 ≤ (headP (nodeP x n) x p (d + 1)).2.2 := by
        unfold headP
        split
        · exact Int.le_refl _
        · split
          · exact Int.le_refl _
          · split
            · exact Int.le_trans (node_d n (p + 1) (d + 1)) (rest_d (fun p d => node_d n p d) _ _ _ _ _)
            · exact Int.le_refl _
      unfold tailP
      cases e : (headP (nodeP x n) x p (d + 1)).1 with
      | none => show d ≤ _ - 1; omega
      | some t => show d ≤ _ - 1; omega
/-- what the reader tells, and where it stands then -/
abbrev After (Q : DK) (M0 : Mp) (a : Addr) (x : List Nat) (r : Option Ty × Nat × Int) : Prop := Q (oD r.1) (ob M0 a x r.2.1 r.2.2)
def sp_nodeR (n : Nat) : DS1 := fun ds M Q => ∃ (M0 : Mp) (a : Addr) (x : List Nat) (p : Nat) (d : Int), ds = [.ref a] ∧ M = ob M0 a x p d ∧ x.length ≤ 50000 ∧ 30 ≤ d + n ∧ After Q M0 a x (nodeP x n p d)
def sp_couple (n : Nat) : DS1 := fun ds M Q => ∃ (M0 : Mp) (a : Addr) (x : List Nat) (p : Nat) (d : Int), ds = [.ref a] ∧ M = ob M0 a x p d ∧ x.length ≤ 50000 ∧ 30 ≤ d + n ∧ After Q M0 a x (coupleP (nodeP x n) x p d)
/-- is_next asked -/
theorem ask {t tc : DTE} {ρ : Rho} {M0 : Mp} {a : Addr} {x : List Nat} {p : Nat} {d : Int} {c : Nat} {s : Str} {G : Bool → Mp → Prop} (hs : s = S [c]) (hx : x.length ≤ 50000) (ht : ∀ Q' : DK, Q' (.ref a) (ob M0 a x p d) → t ρ (ob M0 a x p d) Q')
    (hc : ∀ Q' : DK, Q' (.str s) (ob M0 a x p d) → tc ρ (ob M0 a x p d) Q') (q : G (nx x p c) (ob M0 a x (p + one (nx x p c)) d)) : dB (dMeth "TypeText" "is_next" sp_next t (dCons tc dNil)) ρ (ob M0 a x p d) G :=
  ht _ ⟨a, _, rfl, ob_at, rfl, hc _ ⟨M0, a, x, p, d, c, s, rfl, hs, rfl, hx, _, rfl, q⟩⟩
/-- what comes behind the word -/
theorem rd_rest {Q : DK} {M0 : Mp} {a : Addr} {x : List Nat} {n : Nat} {o1 : Option Ty} {w : Str} {b b' : Bool} {p3 : Nat} {d1 : Int} (hx : x.length ≤ 50000) (hd : 30 ≤ d1 + n) (hw : w = (if b = true then ("cat" : Str) else if b' = true then ("or" : Str) else ("" : Str))) (bb : b = true → b' = false)
    (q : After Q M0 a x (restP (nodeP x n) x o1 b b' p3 d1)) :
    (dSeq (dAsg (dIf (dAndT (dB (dOp (rIsN true) (dSlot 1) (dC .non))) (dB (dOp (rEqD2 true) (dSlot 2) (dC (.str ""))))) (dMeth "TypeText" "node" (sp_nodeR n) (dSlot 0) dNil) (dC .non)) (dgName 3)) (dRet (dIf (dAndT (dB (dOp (rIsN true) (dSlot 3) (dC .non))) (dB (dMeth "TypeText" "is_next" sp_next (dSlot 0) (dCons (dC (.str ")")) dNil)))) (dTup (dCons (dSlot 2) (dCons (dSlot 1) (dCons (dSlot 3) dNil)))) (dC .non))))
      { nx := fun _ M' => Q .non M', rt := Q } [some (.ref a), some (oD o1), some (.str w), none] (ob M0 a x p3 d1) := by
  unfold restP at q
  cases o1 with
  | none => exact ⟨_, rfl, rfl, _, rfl, _, rfl, rfl, _, rfl, q⟩
  | some ta =>
    simp only at q
    refine ⟨_, rfl, rfl, true, by show D.bl (!isNon ta.d) = _; rw [ty_ne]; rfl, ?_⟩
    refine ⟨_, rfl, _, rfl, ?_⟩
    by_cases hb : (b || b') = true
    · rw [if_pos hb] at q
      have hne : (!decide (w = "")) = true := by
        rw [hw]
        cases b with
        | true => show (!decide (("cat" : Str) = "")) = true; decide
        | false =>
          cases b' with
          | true => show (!decide (("or" : Str) = "")) = true; decide
          | false => simp at hb
      have hpw : w = pw b' := by
        rw [hw]
        cases b with
        | true => rw [bb rfl]; rfl
        | false =>
          cases b' with
          | true => rfl
          | false => simp at hb
      show (if (!decide (w = "")) = true then _ else _)
      rw [if_pos hne]
      refine ⟨_, rfl, a, _, rfl, ob_at, rfl, M0, a, x, p3, d1, rfl, rfl, hx, hd, ?_⟩
      cases e2 : nodeP x n p3 d1 with
      | mk o2 r2 =>
        obtain ⟨p4, d4⟩ := r2
        rw [e2] at q
        cases o2 with
        | none => exact ⟨_, rfl, rfl, _, rfl, q⟩
        | some tb =>
          simp only at q
          refine ⟨_, rfl, rfl, true, by show D.bl (!isNon tb.d) = _; rw [ty_ne]; rfl, ?_⟩
          refine ask (c := 41) (s := ")") rfl hx (fun Q' h => ⟨_, rfl, h⟩) (fun Q' h => h) ?_
          cases h4 : nx x p4 41 with
          | true =>
            rw [h4, if_pos rfl] at q
            refine ⟨_, rfl, _, rfl, _, rfl, small (by simp), ?_⟩
            rw [hpw]
            exact q
          | false => rw [h4, if_neg (by decide)] at q; exact q
    · have hne : (!decide (w = "")) = false := by
        rw [hw]
        cases b with
        | true => simp at hb
        | false =>
          cases b' with
          | true => simp at hb
          | false => show (!decide (("" : Str) = "")) = false; decide
      rw [if_neg hb] at q
      show (if (!decide (w = "")) = true then _ else _)
      rw [hne]
      exact ⟨_, rfl, rfl, _, rfl, q⟩
theorem rd_couple (n : Nat) : ∀ ds M Q, sp_couple n ds M Q → ds.length = 1 ∧ r_TypeText_couple (sp_nodeR n) sp_next { nx := fun _ M' => Q .non M', rt := Q } (dstart N_TypeText_couple ds) M := by
  rintro _ M Q ⟨M0, a, x, p, d, rfl, rfl, hx, hd, q⟩
  refine ⟨rfl, ?_⟩
  refine ⟨_, rfl, a, _, rfl, ob_at, rfl, M0, a, x, p, d, rfl, rfl, hx, hd, ?_⟩
  have ge := node_d (x := x) n p d
  unfold coupleP at q
  cases e1 : nodeP x n p d with
  | mk o1 r1 =>
    obtain ⟨p1, d1⟩ := r1
    rw [e1] at q ge
    simp only at q ge
    have hd1 : 30 ≤ d1 + n := by omega
    show (dIf (dB (dMeth "TypeText" "is_next" sp_next (dSlot 0) (dCons (dC v_BLANK) dNil))) (dC v_CAT) (dIf (dB (dMeth "TypeText" "is_next" sp_next (dSlot 0) (dCons (dC v_BAR) dNil))) (dC v_OR) (dC (.str "")))) _ (ob M0 a x p1 d1) _
    refine ask (c := 32) (s := " ") rfl hx (fun Q' h => ⟨_, rfl, h⟩) (fun Q' h => h) ?_
    cases h1 : nx x p1 32 with
    | true =>
      rw [h1] at q
      exact rd_rest (w := "cat") (b := true) (b' := false) (p3 := p1 + 1) hx hd1 rfl (fun _ => rfl) q
    | false =>
      rw [h1] at q
      show (dIf (dB (dMeth "TypeText" "is_next" sp_next (dSlot 0) (dCons (dC v_BAR) dNil))) (dC v_OR) (dC (.str ""))) _ (ob M0 a x p1 d1) _
      refine ask (c := 124) (s := "|") rfl hx (fun Q' h => ⟨_, rfl, h⟩) (fun Q' h => h) ?_
      cases h2 : nx x p1 124 with
      | true =>
        have h2' : nx x (p1 + one false) 124 = true := h2
        rw [h2'] at q
        exact rd_rest (w := "or") (b := false) (b' := true) (p3 := p1 + 1) hx hd1 rfl (fun z => nomatch z) q
      | false =>
        have h2' : nx x (p1 + one false) 124 = false := h2
        rw [h2'] at q
        exact rd_rest (w := "") (b := false) (b' := false) (p3 := p1) hx hd1 rfl (fun z => nomatch z) q
/-! ### node -/
theorem rd_stars {Q : DK} {M0 : Mp} {a : Addr} {x : List Nat} {o : Option Ty} {p : Nat} {d : Int} {z : DL.D} (hx : x.length ≤ 50000) (q : After Q M0 a x (tailP x (o, p, d + 1))) :
    (dSeq (dWhile (dAndT (dB (dOp (rIsN true) (dSlot 2) (dC .non))) (dB (dMeth "TypeText" "is_next" sp_next (dSlot 0) (dCons (dC v_AGAIN) dNil)))) (dSeq (dAsg (dOp (rAddD true) (dSlot 1) (dC (.int 1))) (dgName 1)) (dAsg (dIf (dB (dOp DL.rLtD (dSlot 1) (dC v_MOST_DEEP))) (dTup (dCons (dC v_STAR) (dCons (dSlot 2) dNil))) (dC .non)) (dgName 2)))) (dRet (dSlot 2)))
      { nx := fun _ M' => Q .non M', rt := Q } [some (.ref a), some (.int 0), some (oD o)] (ob M0 a x p d) := by
  have none_end : ∀ (G : Rho → Mp → Prop) {k : Int} {p' : Nat}, Q .non (ob M0 a x p' d) → (dRet (dSlot 2) : DTS) { nx := fun _ M' => Q .non M', rt := Q } [some (.ref a), some (.int k), some .non] (ob M0 a x p' d) := fun _ _ _ h => ⟨_, rfl, h⟩
  refine ⟨fun m ρ M => ∃ (k : Int) (p' : Nat), (m = 0 ∧ ρ = [some (.ref a), some (.int k), some .non] ∧ M = ob M0 a x p' d ∧ Q .non (ob M0 a x p' d)) ∨
    ∃ (t : Ty) (j : Nat), m = j + 1 ∧ k + j = 29 ∧ ρ = [some (.ref a), some (.int k), some t.d] ∧ M = ob M0 a x p' d ∧ Q (oD (starsP x j t p').1) (ob M0 a x (starsP x j t p').2 d), ?_, ?_⟩
  · unfold tailP at q
    cases o with
    | none =>
      refine ⟨0, 0, p, .inl ⟨rfl, rfl, rfl, ?_⟩⟩
      have e : d + 1 - 1 = d := by omega
      show Q .non (ob M0 a x p d)
      rw [← e]; exact q
    | some t =>
      refine ⟨30, 0, p, .inr ⟨t, 29, rfl, rfl, rfl, rfl, ?_⟩⟩
      have e : d + 1 - 1 = d := by omega
      rw [← e]; exact q
  · rintro m ρ M ⟨k, p', ⟨rfl, rfl, rfl, q⟩ | ⟨t, j, rfl, hk, rfl, rfl, q⟩⟩
    · exact ⟨_, rfl, rfl, _, rfl, ⟨_, rfl, q⟩⟩
    · refine ⟨_, rfl, rfl, true, by show D.bl (!isNon t.d) = _; rw [ty_ne]; rfl, ?_⟩
      refine ask (c := 42) (s := "*") rfl hx (fun Q' h => ⟨_, rfl, h⟩) (fun Q' h => h) ?_
      cases j with
      | zero =>
        unfold starsP at q
        cases h : nx x p' 42 with
        | false => rw [h] at q; exact ⟨_, rfl, q⟩
        | true =>
          rw [h] at q
          have hk' : k = 29 := by omega
          subst hk'
          refine ⟨fun ρ' M' => ρ' = [some (.ref a), some (.int 30), some .non] ∧ M' = ob M0 a x (p' + 1) d, ?_, ?_⟩
          · rintro ρ' M' ⟨rfl, rfl⟩
            exact ⟨0, by omega, 30, p' + 1, .inl ⟨rfl, rfl, rfl, q⟩⟩
          · exact ⟨_, rfl, _, rfl, _, rfl, rfl, rfl⟩
      | succ j =>
        unfold starsP at q
        cases h : nx x p' 42 with
        | false => rw [h] at q; exact ⟨_, rfl, q⟩
        | true =>
          rw [h] at q
          refine ⟨fun ρ' M' => ρ' = [some (.ref a), some (.int (k + 1)), some (Ty.star t).d] ∧ M' = ob M0 a x (p' + 1) d, ?_, ?_⟩
          · rintro ρ' M' ⟨rfl, rfl⟩
            exact ⟨j + 1, by omega, k + 1, p' + 1, .inr ⟨.star t, j, rfl, by omega, rfl, rfl, q⟩⟩
          · refine ⟨_, rfl, _, rfl, _, rfl, ?_⟩
            have lt : k + 1 < 30 := by omega
            show (if decide (k + 1 < 30) = true then _ else _)
            rw [decide_eq_true lt]
            exact ⟨_, rfl, small (by simp), rfl, rfl⟩
theorem rd_behind {Q : DK} {M0 : Mp} {a : Addr} {x : List Nat} {o : Option Ty} {p : Nat} {d : Int} {z : Option DL.D} (hx : x.length ≤ 50000) (q : After Q M0 a x (tailP x (o, p, d))) :
    (dSeq (dSetF "TypeText" "deep" (dSlot 0) (dOp (rInt (fun _ _ => True) fun i j => .int (i - j)) (dFld "TypeText" "deep" (dSlot 0)) (dC (.int 1)))) (dSeq (dAsg (dC (.int 0)) (dgName 1))
      (dSeq (dWhile (dAndT (dB (dOp (rIsN true) (dSlot 2) (dC .non))) (dB (dMeth "TypeText" "is_next" sp_next (dSlot 0) (dCons (dC v_AGAIN) dNil)))) (dSeq (dAsg (dOp (rAddD true) (dSlot 1) (dC (.int 1))) (dgName 1)) (dAsg (dIf (dB (dOp DL.rLtD (dSlot 1) (dC v_MOST_DEEP))) (dTup (dCons (dC v_STAR) (dCons (dSlot 2) dNil))) (dC .non)) (dgName 2)))) (dRet (dSlot 2)))))
      { nx := fun _ M' => Q .non M', rt := Q } [some (.ref a), z, some (oD o)] (ob M0 a x p d) := by
  refine setDeep (M := M0) (a := a) (x := x) (p := p) (d := d) (e := d - 1) (fun Q' h => ?_) (fun Q' h => ⟨_, rfl, h⟩) ?_
  · refine fld (fun Q' h => ⟨_, rfl, h⟩) look_deep ?_
    exact ⟨_, _, rfl, rfl, trivial, h⟩
  · exact rd_stars (z := .non) hx (by rw [show d - 1 + 1 = d by omega]; exact q)
theorem rd_node' (n : Nat) (sp : DS1) (hsp : ∀ m, n = m + 1 → sp = sp_couple m) : ∀ ds M Q, sp_nodeR n ds M Q → ds.length = 1 ∧ r_TypeText_node sp_next sp_lf sp { nx := fun _ M' => Q .non M', rt := Q } (dstart N_TypeText_node ds) M := by
  rintro _ M Q ⟨M0, a, x, p, d, rfl, rfl, hx, hd, q⟩
  refine ⟨rfl, ?_⟩
  refine setDeep (M := M0) (a := a) (x := x) (p := p) (d := d) (e := d + 1) (fun Q' h => ?_) (fun Q' h => ⟨_, rfl, h⟩) ?_
  · exact fld (fun Q' h => ⟨_, rfl, h⟩) look_deep h
  show (dIfS (dB (dOp (rInt (fun _ _ => True) fun i j => .bl (decide (j < i))) (dFld "TypeText" "deep" (dSlot 0)) (dC v_MOST_DEEP))) (dRet (dC .non)) dNext) _ _ (ob M0 a x p (d + 1))
  refine fld (fun Q' h => ⟨_, rfl, h⟩) look_deep ?_
  refine ⟨_, _, rfl, rfl, trivial, _, rfl, ?_⟩
  have deepEnd : d + 1 > 30 → nodeP x n p d = (none, p, d + 1) := by
    intro h
    cases n with
    | zero => rfl
    | succ m => rw [nodeP, if_pos h]
  by_cases h30 : d + 1 > 30
  · rw [deepEnd h30] at q
    rw [decide_eq_true (show (30 : Int) < d + 1 from h30)]
    exact q
  rw [decide_eq_false (show ¬ (30 : Int) < d + 1 from h30)]
  obtain ⟨m, rfl⟩ : ∃ m, n = m + 1 := by
    cases n with
    | zero => exfalso; simp at hd; omega
    | succ m => exact ⟨m, rfl⟩
  obtain rfl := hsp m rfl
  rw [nodeP, if_neg h30] at q
  unfold headP at q
  show (dSeq (dIfS (dB (dMeth "TypeText" "is_next" sp_next (dSlot 0) (dCons (dC v_QUOTE) dNil))) _ _) _) _ _ (ob M0 a x p (d + 1))
  refine ask (c := 39) (s := "'") rfl hx (fun Q' h => ⟨_, rfl, h⟩) (fun Q' h => h) ?_
  cases h1 : nx x p 39 with
  | true =>
    rw [h1, if_pos rfl] at q
    refine ⟨_, rfl, a, _, rfl, ob_at, rfl, M0, a, x, p + 1, d + 1, false, _, _, rfl, rfl, rfl, rfl, hx, ?_⟩
    exact rd_behind hx q
  | false =>
    rw [h1, if_neg (by decide)] at q
    show (dIfS (dB (dMeth "TypeText" "is_next" sp_next (dSlot 0) (dCons (dC (.str "[")) dNil))) _ _) _ _ (ob M0 a x p (d + 1))
    refine ask (c := 91) (s := "[") rfl hx (fun Q' h => ⟨_, rfl, h⟩) (fun Q' h => h) ?_
    cases h2 : nx x p 91 with
    | true =>
      rw [h2, if_pos rfl] at q
      refine ⟨_, rfl, a, _, rfl, ob_at, rfl, M0, a, x, p + 1, d + 1, true, _, _, rfl, rfl, rfl, rfl, hx, ?_⟩
      exact rd_behind hx q
    | false =>
      rw [h2, if_neg (by decide)] at q
      show (dAsg (dIf (dB (dMeth "TypeText" "is_next" sp_next (dSlot 0) (dCons (dC (.str "(")) dNil))) _ _) (dgName 2)) _ _ (ob M0 a x p (d + 1))
      refine ask (c := 40) (s := "(") rfl hx (fun Q' h => ⟨_, rfl, h⟩) (fun Q' h => h) ?_
      cases h3 : nx x p 40 with
      | true =>
        rw [h3, if_pos rfl] at q
        refine ⟨_, rfl, a, _, rfl, ob_at, rfl, M0, a, x, p + 1, d + 1, rfl, rfl, hx, by omega, ?_⟩
        exact rd_behind (o := (coupleP (nodeP x m) x (p + 1) (d + 1)).1) (p := (coupleP (nodeP x m) x (p + 1) (d + 1)).2.1) (d := (coupleP (nodeP x m) x (p + 1) (d + 1)).2.2) hx q
      | false =>
        rw [h3, if_neg (by decide)] at q
        exact rd_behind (o := none) hx q
end K02

set_option maxHeartbeats 4000000
/-! K02i: read_type; whether a text is refused or read; a text otherwise. -/
namespace K02
open PySem PySem.Spec DL KB
open L2 (atI ixN)
open PyProof.Rows hiding St signs

theorem node_hi {L : List Nat} {n p q : Nat} {d e : Int} {t : Ty} (h : nodeP L n p d = (some t, q, e)) : t.ok = true ∧ t.hi + 1 ≤ L.length := by
  obtain ⟨o, s⟩ := node_sound h
  have l := congrArg List.length s
  rw [List.length_append, List.length_drop, List.length_drop] at l
  have := hi_len t
  exact ⟨o, by omega⟩
/-- what is no text, told by its kind -/
def noStr : DL.D → Bool
  | .str _ => false
  | .ref _ => false
  | .exc _ _ => false
  | _ => true
def sp_read1 : DSp := fun ds M Q E => (∃ x : List Nat, ds = [.str (S x)] ∧ x.length ≤ 63 ∧ ∀ M', SubM M M' → match readP x with
    | some t => Q t.d M'
    | none => E "NoTypeText" (.str (S x)) M') ∨ ∃ v, ds = [v] ∧ noStr v = true ∧ E "NoTypeText" v M
theorem rd_read1 : ∀ ds M Q E, sp_read1 ds M Q E → ds.length = 1 ∧ r_read_type E sp_init (sp_nodeR 30) sp_type { nx := fun _ M' => Q .non M', rt := Q } (dstart N_read_type ds) M := by
  rintro _ M Q E (⟨x, rfl, hx, q⟩ | ⟨v, rfl, hv, e⟩)
  case inr =>
    refine ⟨rfl, ?_⟩
    cases v <;> first | (cases hv; done) | exact ⟨_, rfl, _, rfl, false, rfl, ⟨_, rfl, e⟩⟩
  refine ⟨rfl, ?_⟩
  refine ⟨_, rfl, _, rfl, true, rfl, ?_⟩
  refine ⟨_, rfl, fun a ha => ⟨M, a, x, rfl, rfl, rfl, ?_⟩⟩
  refine ⟨_, rfl, a, _, rfl, ob_at, rfl, M, a, x, 0, 0, rfl, rfl, by omega, by decide, ?_⟩
  unfold readP at q
  have sub : ∀ p d, SubM M (ob M a x p d) := fun p d => (SubM.refl M).mu ha _
  cases e1 : nodeP x 30 0 0 with
  | mk o r =>
    obtain ⟨p, d⟩ := r
    rw [e1] at q
    have q := q _ (sub p d)
    cases o with
    | none => exact ⟨_, rfl, rfl, _, rfl, ⟨_, rfl, q⟩⟩
    | some t =>
      obtain ⟨o, hh⟩ := node_hi e1
      simp only at q
      refine ⟨_, rfl, rfl, false, by show D.bl (isNon t.d) = _; rw [ty_ne], ?_⟩
      show (dOrT (dB (dOp (rEqD2 true) (dFld "TypeText" "at" (dSlot 1)) (dCB DL.rLen (dCons (dSlot 0) dNil)))) (dNotT (dB (dCall1 sp_type (dCons (dSlot 2) dNil))))) [some (.str (S x)), some (.ref a), some t.d] (ob M a x p d) _
      refine fld (fun Q' h => ⟨_, rfl, h⟩) look_at ?_
      refine ⟨_, rfl, small (by rw [S_len]; omega), ?_⟩
      refine ⟨_, rfl, ?_⟩
      rw [S_len]
      by_cases hp : p = x.length
      · show (if (!decide (((p : Nat) : Int) = (x.length : Nat))) = true then _ else _)
        rw [decide_eq_true (by rw [hp])]
        refine ⟨_, rfl, t.d, rfl, ty_gd o, by rw [ty_dep]; omega, _, rfl, ?_⟩
        by_cases hc : countT 30 t.d ≤ 120
        · rw [decide_eq_true hc]
          rw [if_pos ⟨hp, hc⟩] at q
          exact ⟨_, rfl, q⟩
        · rw [decide_eq_false hc]
          rw [if_neg (fun z => hc z.2)] at q
          exact ⟨_, rfl, q⟩
      · rw [if_neg (fun z => hp z.1)] at q
        show (if (!decide (((p : Nat) : Int) = (x.length : Nat))) = true then _ else _)
        rw [decide_eq_false (fun z => hp (by omega))]
        exact ⟨_, rfl, q⟩
def sp_read : DSp := fun ds M Q E => (∃ x : List Nat, ds = [.str (S x)] ∧ x.length ≤ 63 ∧ (∀ t, readP x = some t → Q t.d M) ∧ (readP x = none → E "NoTypeText" (.str (S x)) M)) ∨ ∃ v, ds = [v] ∧ noStr v = true ∧ E "NoTypeText" v M
theorem wk_read : ∀ ds M Q E, sp_read ds M Q E → sp_read1 ds M (fun d M1 => ∃ M2, SubM M2 M1 ∧ Q d M2) fun x v M1 => ∃ M2, SubM M2 M1 ∧ E x v M2 := by
  rintro ds M Q E (⟨x, rfl, hx, q1, q2⟩ | ⟨v, rfl, hv, e⟩)
  · refine .inl ⟨x, rfl, hx, fun M' sub => ?_⟩
    cases h : readP x with
    | some t => exact ⟨M, sub, q1 t h⟩
    | none => exact ⟨M, sub, q2 h⟩
  · exact .inr ⟨v, rfl, hv, M, SubM.refl M, e⟩
/-! ### read or refused -/
theorem isC_same (x : Str) : isC x x = true := by unfold isC; simp
theorem str_same {s : Str} {M : Mp} {Q : DK} (q : Q (.bl true) M) : rEqD2 false (.str s) (.str s) M Q := by
  show Q (.bl (decide (s = s))) M
  rw [decide_eq_true rfl]
  exact q
theorem repr_S {x : List Nat} (l : x.length ≤ 1000) (h : ∀ c ∈ x, c < 128) : ∃ s : Str, ∀ (M : Mp) (Q : DK), Q (.str s) M → rReprD [.str (S x)] M Q :=
  repr_gd (gd_S (by omega) h) (by simp [dep]) (by simp only [wt]; rw [S_size]; omega)
def sp_is_read : DS1 := fun ds M Q => ∃ x : List Nat, ds = [.str (S x)] ∧ x.length ≤ 63 ∧ (∀ c ∈ x, c < 128) ∧ Q (.bl true) M
theorem rd_is_read : ∀ ds M Q, sp_is_read ds M Q → ds.length = 1 ∧ r__law_is_read sp_read (sp_shown 70) sp_type { nx := fun _ M' => Q .non M', rt := Q } (dstart N__law_is_read ds) M := by
  rintro _ M Q ⟨x, rfl, hx, hc, q⟩
  refine ⟨rfl, ?_⟩
  refine ⟨_, rfl, .inl ⟨x, rfl, hx, fun t ht => ?_, fun hn => ?_⟩⟩
  · obtain ⟨o, sh, cn⟩ := read_sound ht
    have hh := hi_len t
    rw [sh] at hh
    refine ⟨_, rfl, rfl, _, _, rfl, _, _, rfl, rfl, ?_⟩
    refine ⟨_, rfl, rfl, false, rfl, ?_⟩
    refine ⟨_, rfl, t.d, rfl, ty_gd o, by rw [ty_dep]; omega, ?_⟩
    rw [decide_eq_true cn]
    refine ⟨true, rfl, ?_⟩
    refine ⟨_, rfl, t, rfl, o, by omega, by rw [sh]; omega, ?_⟩
    rw [sh]
    exact ⟨_, rfl, str_same q⟩
  · obtain ⟨s, hs⟩ := repr_S (x := x) (by omega) hc
    refine ⟨.inr rfl, _, rfl, rfl, _, _, rfl, _, _, rfl, rfl, ?_⟩
    refine ⟨_, rfl, rfl, true, rfl, ?_⟩
    refine ⟨_, rfl, _, _, rfl, .inr rfl, true, by rw [isC_same], ?_⟩
    show dCB rReprD (dCons (dExcV kn (dSlot 1)) dNil) _ _ _
    refine repr_op hs (fun Q' h => ⟨_, rfl, "NoTypeText", _, rfl, .inr rfl, h⟩) ?_
    show dCB rReprD (dCons (dSlot 0) dNil) _ _ _
    exact repr_op hs (fun Q' h => ⟨_, rfl, h⟩) (str_same q)
/-! ### a text otherwise -/
theorem cutS_to (x : List Nat) (k : Nat) : L2.cutS (S x) none (some (k : Int)) = S (x.take k) := by
  rw [← cut_to x k]
  unfold L2.cutS DL.cutD
  rw [S_len]
theorem cutS_from (x : List Nat) (k : Nat) : L2.cutS (S x) (some (k : Int)) none = S (x.drop k) := by
  rw [← cut_from x k]
  unfold L2.cutS DL.cutD
  rw [S_len]
theorem rev_S (x : List Nat) : revT (S x) = S x.reverse := by
  unfold revT
  simp
/-- a text of signs, of a length -/
def Tx (n : Nat) (x : List Nat) : Prop := x.length ≤ n ∧ ∀ c ∈ x, c < 128
def sp_other : DS1 := fun ds M Q => ∃ (a : Addr) (x : List Nat) (n c : Nat), ds = [.ref a, .str (S x)] ∧ Tx n x ∧ n ≤ 1000 ∧ Pot M a c ∧ c + 3 ≤ 100000 ∧ ∀ (y : List Nat) M2, Tx (n + 1) y → Dr M a M2 (c + 3) → Q (.str (S y)) M2
abbrev OTH : Str := "()|*[]'/ ab,\x0aA"
theorem oth_small : ∀ c ∈ OTH.cps.toList, c < 128 := by decide +kernel
theorem frN {x : List Nat} {j : Nat} {ρ : Rho} {M : Mp} {G : DK} (l : (S x).length ≤ 100000) (h : G (.str (S (x.drop j))) M) : dNoPart ρ M fun hi M3 => rSlD true (.str (S x)) (some ((j : Nat) : Int)) hi M3 G := ⟨small l, by rw [cutS_from]; exact h⟩
theorem rd_other : ∀ ds M Q, sp_other ds M Q → ds.length = 2 ∧ r__law_otherwise sp_take sp_of { nx := fun _ M' => Q .non M', rt := Q } (dstart N__law_otherwise ds) M := by
  rintro _ M Q ⟨a, x, n, c, rfl, ⟨lx, cx⟩, hn, p, hc, q⟩
  refine ⟨rfl, ?_⟩
  refine ⟨_, rfl, _, rfl, small (by rw [S_len]; omega), ?_⟩
  refine ⟨a, _, c, rfl, p, by omega, by rw [S_len]; omega, by rw [S_len]; omega, fun k M1 k0 k1 d1 => ?_⟩
  obtain ⟨k, rfl⟩ := Int.eq_ofNat_of_zero_le k0
  rw [S_len] at k1
  refine ⟨_, rfl, a, _, c + 1, rfl, d1.1, by omega, .inr ⟨OTH, rfl, by decide +kernel, by decide +kernel, fun ch hch M2 d2 => ?_⟩⟩
  have s128 := oth_small ch hch
  refine ⟨_, rfl, a, 4, c + 1 + 1, rfl, d2.1, by omega, by omega, by omega, fun w M3 w0 w1 d3 => ?_⟩
  have dr : Dr M a M3 (c + 3) := ((d1.trans d2).trans d3).up (by omega)
  have lt : (x.take k).length + (x.drop k).length = x.length := by rw [← List.length_append, List.take_append_drop]
  have ld1 : (x.drop (k + 1)).length ≤ (x.drop k).length := by simp only [List.length_drop]; omega
  have ld0 : (x.take k).length + (x.drop (k + 1)).length ≤ x.length := by omega
  have mt : ∀ c ∈ x.take k, c < 128 := fun c hc => cx c (List.mem_of_mem_take hc)
  have md : ∀ j, ∀ c ∈ x.drop j, c < 128 := fun j c hc => cx c (List.mem_of_mem_drop hc)
  have toO : ∀ {M' : Mp} {Q' : DK}, Q' (.str (S (x.take k))) M' → rSlD true (.str (S x)) none (some (k : Int)) M' Q' := fun h => ⟨small (by rw [S_len]; omega), by rw [cutS_to]; exact h⟩
  have frO : ∀ {M' : Mp} {Q' : DK} {j : Nat}, Q' (.str (S (x.drop j))) M' → rSlD true (.str (S x)) (some (j : Int)) none M' Q' := fun h => ⟨small (by rw [S_len]; omega), by rw [cutS_from]; exact h⟩
  refine ⟨_, _, _, rfl, ?_⟩
  refine ⟨_, rfl, decide (w = 0), rfl, ?_⟩
  by_cases h0 : w = 0
  · rw [decide_eq_true h0]
    refine ⟨_, rfl, _, rfl, k, rfl, toO ?_⟩
    refine ⟨_, rfl, _, rfl, _, rfl, ?_⟩
    refine frN (j := k + 1) (by rw [S_len]; omega) ?_
    refine addS rfl rfl (by omega) ?_
    refine q _ _ ⟨by rw [List.length_append]; omega, fun c hc => ?_⟩ dr
    rcases List.mem_append.mp hc with h | h
    · exact mt c h
    · exact md _ c h
  rw [decide_eq_false h0]
  refine ⟨_, rfl, decide (w = 1), rfl, ?_⟩
  by_cases h1 : w = 1
  · rw [decide_eq_true h1]
    refine ⟨_, rfl, _, rfl, k, rfl, toO ?_⟩
    refine ⟨_, rfl, addS (b := [ch]) rfl rfl (by simp; omega) ?_⟩
    refine ⟨_, rfl, _, rfl, _, rfl, ?_⟩
    refine frN (j := k) (by rw [S_len]; omega) ?_
    refine addS rfl rfl (by simp; omega) ?_
    refine q _ _ ⟨by simp only [List.length_append, List.length_singleton]; omega, fun c hc => ?_⟩ dr
    rcases List.mem_append.mp hc with h | h
    · rcases List.mem_append.mp h with h | h
      · exact mt c h
      · rw [List.mem_singleton.mp h]; exact s128
    · exact md _ c h
  rw [decide_eq_false h1]
  refine ⟨_, rfl, decide (w = 2), rfl, ?_⟩
  by_cases h2 : w = 2
  · rw [decide_eq_true h2]
    refine ⟨_, rfl, _, rfl, k, rfl, toO ?_⟩
    refine ⟨_, rfl, addS (b := [ch]) rfl rfl (by simp; omega) ?_⟩
    refine ⟨_, rfl, _, rfl, _, rfl, ?_⟩
    refine frN (j := k + 1) (by rw [S_len]; omega) ?_
    refine addS rfl rfl (by simp only [List.length_append, List.length_singleton]; omega) ?_
    refine q _ _ ⟨by simp only [List.length_append, List.length_singleton]; omega, fun c hc => ?_⟩ dr
    rcases List.mem_append.mp hc with h | h
    · rcases List.mem_append.mp h with h | h
      · exact mt c h
      · rw [List.mem_singleton.mp h]; exact s128
    · exact md _ c h
  rw [decide_eq_false h2]
  have l2 : ((x.drop k).take (k + 2 - k)).reverse.length + (x.drop (k + 2)).length ≤ (x.drop k).length := by
    rw [List.length_reverse, List.length_take, List.length_drop, List.length_drop]
    omega
  refine ⟨_, rfl, _, rfl, k, rfl, toO ?_⟩
  refine ⟨_, rfl, _, rfl, _, rfl, _, rfl, _, rfl, small (by rw [S_len]; omega), ?_⟩
  show rRev true (.str (L2.cutS (S x) (some (k : Int)) (some ((k + 2 : Nat) : Int)))) _ _
  rw [cutS_two x (by omega)]
  refine ⟨small (by rw [S_len, List.length_take, List.length_drop]; omega), ?_⟩
  rw [rev_S]
  refine addS rfl rfl (by omega) ?_
  refine ⟨_, rfl, _, rfl, _, rfl, ?_⟩
  refine frN (j := k + 2) (by rw [S_len]; omega) ?_
  refine addS rfl rfl (by rw [List.length_append]; omega) ?_
  refine q _ _ ⟨by simp only [List.length_append]; omega, fun c hc => ?_⟩ dr
  rcases List.mem_append.mp hc with h | h
  · rcases List.mem_append.mp h with h | h
    · exact mt c h
    · exact md k c (List.mem_of_mem_take (List.mem_reverse.mp h))
  · exact md _ c h
end K02

set_option maxHeartbeats 8000000
/-! K02j: one round of the law; the law. -/
namespace K02
open PySem PySem.Spec DL KB
open L2 (atI ixN)
open PyProof.Rows hiding St signs

def Fair (v : DL.D) : Prop := gd v = true ∧ dep v ≤ 60 ∧ wt v ≤ 8000
def Fair1 (v : DL.D) : Bool := gd v && decide (dep v ≤ 60) && decide (wt v ≤ 8000)
theorem fair_by {v : DL.D} (h : Fair1 v = true) : Fair v := by
  simp only [Fair1, Bool.and_eq_true, decide_eq_true_eq] at h
  exact ⟨h.1.1, h.1.2, h.2⟩
theorem swp_small {x : List Nat} (h : ∀ c ∈ x, c < 128) : ∀ c ∈ swp x, c < 128 := by
  intro c hc
  rcases (swp_mem hc).2 with rfl | h2
  · decide
  · exact h c h2
theorem sh_small : ∀ {t : Ty}, t.ok = true → ∀ c ∈ t.sh, c < 128
  | .leaf s x, o, c, hc => by
    obtain ⟨_, ok⟩ := lf_ok o
    simp only [Ty.sh, List.mem_cons, List.mem_append, List.not_mem_nil, or_false] at hc
    rcases hc with rfl | h | rfl
    · cases s <;> decide
    · exact swp_small (fun c hc => ok_small (ok c hc)) c h
    · cases s <;> decide
  | .star t, o, c, hc => by
    simp only [Ty.sh, List.mem_append, List.mem_singleton] at hc
    rcases hc with h | rfl
    · exact sh_small (t := t) o c h
    · decide
  | .pair p a b, o, c, hc => by
    simp only [Ty.ok, Bool.and_eq_true] at o
    simp only [Ty.sh, List.mem_append, List.mem_cons, List.not_mem_nil, or_false] at hc
    rcases hc with rfl | h | rfl | h | rfl
    · decide
    · exact sh_small o.1 c h
    · cases p <;> decide
    · exact sh_small o.2 c h
    · decide
theorem fair_ty {t : Ty} (h : Dn 4 t) : Fair t.d := by
  have a := h.hi
  have b := h.nodes
  have c := ty_wt h.ok
  exact ⟨ty_gd h.ok, by rw [ty_dep]; omega, by omega⟩
theorem count_no {v : DL.D} (h : nodeB v = false) : ¬ countT 30 v ≤ 120 := by
  show ¬ (if nodeB v = true then _ else 1000) ≤ 120
  rw [h]
  simp
/-- what is no type, and plain -/
def Bad (v : DL.D) : Prop := Fair v ∧ nodeB v = false
abbrev odd1 : List DL.D := [.non, .int 7, .lst [.str "'a'"], .tup [.str "text", .str "a"], .bl true, .tup [.str "a", .int 1]]
theorem odd1_ok : ∀ v ∈ odd1, noStr v = true ∧ Fair v := by
  intro v hv
  simp only [odd1, List.mem_cons, List.not_mem_nil, or_false] at hv
  rcases hv with rfl | rfl | rfl | rfl | rfl | rfl
  all_goals exact ⟨rfl, fair_by (by decide +kernel)⟩
/-- the items of a type's tuple -/
def Ty.its : Ty → List DL.D
  | .leaf s x => [.str (wd s), .str (S x)]
  | .star t => [.str "star", t.d]
  | .pair o a b => [.str (pw o), a.d, b.d]
theorem its_d (t : Ty) : t.d = .tup t.its := by cases t <;> rfl
abbrev odd2 (t : Ty) : List DL.D := [.non, .str (S t.sh), .lst t.its, .tup [.str "sign", .str "ba"], .tup [.str "text", .str "A"], .tup [.str "star", t.d, t.d], .tup [.str "text", .str (repS "a" 21)]]
theorem odd2_ok {t : Ty} (h : Dn 4 t) : ∀ v ∈ odd2 t, Bad v := by
  obtain ⟨g, d, w⟩ := fair_ty h
  have hn := h.nodes
  have hw := ty_wt h.ok
  have hh := h.hi
  have hl := h.len
  intro v hv
  simp only [odd2, List.mem_cons, List.not_mem_nil, or_false] at hv
  rcases hv with rfl | rfl | rfl | rfl | rfl | rfl | rfl
  · exact ⟨fair_by (by decide +kernel), rfl⟩
  · refine ⟨⟨gd_S (by omega) (sh_small h.ok), by simp [dep], ?_⟩, rfl⟩
    simp only [wt]
    rw [S_size]
    omega
  · rw [its_d] at g d w
    exact ⟨⟨gd_lst.mpr (gd_tup.mp g), d, w⟩, rfl⟩
  · exact ⟨fair_by (by decide +kernel), by decide +kernel⟩
  · exact ⟨fair_by (by decide +kernel), by decide +kernel⟩
  · have e := ty_dep t
    have e4 : (Str.ofString "star").cps.size = 4 := rfl
    refine ⟨⟨gd_tup.mpr ⟨by simp, fun y hy => ?_⟩, ?_, ?_⟩, ?_⟩
    · simp at hy
      rcases hy with rfl | rfl
      · decide +kernel
      · exact g
    · simp only [dep, depAll]
      omega
    · simp only [wt, wtAll, e4]
      omega
    · show decide (("star" : Str) ∈ PR) = false
      decide
  · exact ⟨fair_by (by decide +kernel), by decide +kernel⟩
def sp_lright : DS1 := fun ds M Q => ∃ (a : Addr) (c : Nat), ds = [.ref a] ∧ Pot M a c ∧ c ≤ 10000 ∧ ∀ M', Pot M' a (c + 300) → Q (.bl true) M'
theorem rd_lright : ∀ ds M Q, sp_lright ds M Q → ds.length = 1 ∧ r__law_right (sp_drawn 5) sp_few (sp_shown 40) sp_ttext sp_read sp_other sp_take sp_is_read sp_of { nx := fun _ M' => Q .non M', rt := Q } (dstart N__law_right ds) M := by
  rintro _ M Q ⟨a, c, rfl, p, hc, q⟩
  refine ⟨rfl, ?_⟩
  refine ⟨_, rfl, _, rfl, a, c, rfl, p, by omega, fun x M1 hx fx d1 => ?_⟩
  refine ⟨a, x, 4, c + 4, rfl, by omega, by omega, d1.1, by omega, hx, ⟨by have := fx.1; omega, fx.2⟩, fun t M2 dt d2 => ?_⟩
  have hh := dt.hi
  have hl := dt.len
  have nt : t.sh.length ≤ 61 := by omega
  have sm := sh_small dt.ok
  obtain ⟨gt, dpt, wtt⟩ := fair_ty dt
  obtain ⟨s, hs⟩ := repr_gd gt dpt wtt
  have rdt := dt.read
  refine ⟨_, rfl, t, rfl, dt.ok, by omega, by omega, ?_⟩
  refine ⟨_, rfl, .inl ⟨t, rfl, dt, ?_⟩⟩
  refine ⟨_, rfl, false, by show D.bl (!decide (S t.sh = S t.sh)) = _; rw [decide_eq_true rfl]; rfl, ?_⟩
  show dCB rReprD (dCons (dCallE sp_read (dCons (dSlot 2) dNil) fun _ _ _ => False) dNil) _ _ _
  refine repr_op hs (fun Q' h => ⟨_, rfl, .inl ⟨t.sh, rfl, by omega, fun t' ht' => ?_, fun hn => ?_⟩⟩) ?_
  · rw [rdt] at ht'
    cases ht'
    exact h
  · rw [rdt] at hn
    cases hn
  show dCB rReprD (dCons (dSlot 1) dNil) _ _ _
  refine repr_op hs (fun Q' h => ⟨_, rfl, h⟩) ?_
  refine ⟨false, by show D.bl (!decide (s = s)) = _; rw [decide_eq_true rfl]; rfl, ?_⟩
  have D0 : Dr M a M2 (c + 195) := (d1.trans d2).up (by omega)
  refine ⟨10, rfl, by omega, by omega, ?_⟩
  refine for_inv (fun n ρ M' => ∃ o3 o6, ρ = [some (.ref a), some t.d, some (.str (S t.sh)), o3, none, none, o6] ∧ Pot M' a (c + 195 + 7 * n)) (fun _ _ _ _ => trivial) _ 0 _ _ ⟨none, none, rfl, D0.1⟩ ?_ ?_
  · rintro d hd n ρ M3 ⟨o3, o6, rfl, p3⟩ hn N hN
    have hn3 : n < 10 := by simpa [rgD] using hn
    refine ⟨_, rfl, _, rfl, a, t.sh, 61, c + 195 + 7 * n, rfl, ⟨nt, sm⟩, by omega, p3, by omega, fun y M4 ty d4 => ?_⟩
    refine ⟨_, rfl, a, 3, _, rfl, d4.1, by omega, by omega, by omega, fun w M5 w0 w1 d5 => ?_⟩
    refine ⟨decide (w = 0), rfl, ?_⟩
    have go : ∀ (D : DEnds) (z : List Nat) (M6 : Mp), D.nx = N → Tx 63 z → Pot M6 a (c + 195 + 7 * (n + 1)) → (dIfS (dNotT (dB (dCall1 sp_is_read (dCons (dSlot 6) dNil)))) (dRet (dC (.bl false))) dNext) D [some (.ref a), some t.d, some (.str (S t.sh)), some d, none, none, some (.str (S z))] M6 := by
      intro D z M6 hD tz p6
      refine ⟨_, rfl, z, rfl, tz.1, tz.2, true, rfl, ?_⟩
      show D.nx _ _
      rw [hD]
      exact hN _ _ ⟨_, _, rfl, p6⟩
    by_cases h0 : w = 0
    · rw [decide_eq_true h0]
      refine ⟨_, rfl, _, rfl, a, y, 62, _, rfl, ty, by omega, d5.1, by omega, fun z M6 tz d6 => ?_⟩
      exact go _ z M6 rfl tz (d6.1.up (by omega))
    · rw [decide_eq_false h0]
      exact ⟨_, rfl, go _ y M5 rfl ⟨Nat.le_trans ty.1 (by omega), ty.2⟩ (d5.1.up (by omega))⟩
  · rintro ρ M3 ⟨o3, o6, rfl, p3⟩
    have p3 : Pot M3 a (c + 265) := p3.up (by simp [rgD])
    refine ⟨_, rfl, small (by simp), small (by simp), small (by simp), small (by simp), newTr ⟨a, _, _, rfl, p3, by omega, .inl ⟨odd1, rfl, by simp, by simp, fun v hv M4 d4 => ?_⟩⟩⟩
    obtain ⟨nv, gv, dv, wv⟩ := odd1_ok v hv
    obtain ⟨s2, hs2⟩ := repr_gd gv dv wv
    refine ⟨_, rfl, .inr ⟨v, rfl, nv, .inr rfl, _, _, rfl, ix0, ?_⟩⟩
    refine ⟨_, rfl, "NoTypeText", v, rfl, .inr rfl, true, by rw [isC_same], ?_⟩
    show dCB rReprD (dCons (dExcV kn (dSlot 5)) dNil) _ _ _
    refine repr_op hs2 (fun Q' h => ⟨_, rfl, "NoTypeText", v, rfl, .inr rfl, h⟩) ?_
    show dCB rReprD (dCons (dSlot 4) dNil) _ _ _
    refine repr_op hs2 (fun Q' h => ⟨_, rfl, h⟩) ?_
    refine ⟨false, by show D.bl (!decide (s2 = s2)) = _; rw [decide_eq_true rfl]; rfl, ?_⟩
    refine ⟨_, rfl, _, rfl, t.d, t.its, rfl, by rw [its_d]; rfl, newTr ?_⟩
    refine ⟨small (by simp), small (by simp), _, rfl, _, rfl, small (by simp), by decide, by decide, by decide, small (by simp), small (by simp), newTr ?_⟩
    refine ⟨_, rfl, _, rfl, a, _, _, rfl, d4.1, by omega, .inl ⟨odd2 t, rfl, by simp, by simp, fun u hu M5 d5 => ?_⟩⟩
    obtain ⟨⟨gu, du, wu⟩, nu⟩ := odd2_ok dt u hu
    obtain ⟨s3, hs3⟩ := repr_gd gu du wu
    refine ⟨_, rfl, .inr ⟨u, rfl, gu, by omega, count_no nu, .inl rfl, _, _, rfl, ix0, ?_⟩⟩
    refine ⟨_, rfl, "BadType", u, rfl, .inl rfl, true, by rw [isC_same], ?_⟩
    show dCB rReprD (dCons (dExcV kn (dSlot 5)) dNil) _ _ _
    refine repr_op hs3 (fun Q' h => ⟨_, rfl, "BadType", u, rfl, .inl rfl, h⟩) ?_
    show dCB rReprD (dCons (dSlot 4) dNil) _ _ _
    refine repr_op hs3 (fun Q' h => ⟨_, rfl, h⟩) (str_same (q M5 (d5.1.up (by omega))))
/-! ### the law -/
abbrev handL : List Str := ["", "'", "a", "[]", "[ba]", "[aa]", "('a')", "('a' 'b' 'c')", "('a'  'b')", "('a'|'b'", "*", "'a'**'b'", "(|)", "'\x0a'", "'aaaaaaaaaaaaaaaaaaaaa'", "[A]", "'A'", "''******************************", "((((((((((((((((((((((((((((((((((((((((", " 'a'", "'a' ", "('a' 'b')*|", "/"]
theorem hand_none : (handL.all fun x => decide (x.cps.size ≤ 63) && (readP x.cps.toList).isNone) = true := by decide +kernel
def sp_hand : DS1 := fun ds M Q => ds = [] ∧ Q (.lst (handL.map D.str)) M
theorem rd_hand : ∀ ds M Q, sp_hand ds M Q → ds.length = 0 ∧ r__law_hand { nx := fun _ M' => Q .non M', rt := Q } (dstart N__law_hand ds) M := by
  rintro _ M Q ⟨rfl, q⟩
  refine ⟨rfl, ?_⟩
  refine ⟨small (by simp), newTr ?_⟩
  refine ⟨_, rfl, by decide, by decide, by decide, small (by decide), small (by decide), by decide, by decide, by decide, small (by decide), by decide, by decide, by decide, small (by simp), newTr ?_⟩
  refine ⟨_, _, rfl, rfl, small (by simp), newTr ?_⟩
  refine ⟨_, rfl, small (by simp), newTr ⟨_, _, rfl, rfl, small (by simp), newTr ?_⟩⟩
  have e1 : ("'" : Str) ++ repS "a" 21 ++ ("'" : Str) = "'aaaaaaaaaaaaaaaaaaaaa'" := by decide +kernel
  have e2 : ("''" : Str) ++ repS "*" 30 = "''******************************" := by decide +kernel
  have e3 : repS "(" 40 = "((((((((((((((((((((((((((((((((((((((((" := by decide +kernel
  show Q (.lst [.str "", .str "'", .str "a", .str "[]", .str "[ba]", .str "[aa]", .str "('a')", .str "('a' 'b' 'c')", .str "('a'  'b')", .str "('a'|'b'", .str "*", .str "'a'**'b'", .str "(|)", .str "'\x0a'", .str (("'" : Str) ++ repS "a" 21 ++ ("'" : Str)), .str "[A]", .str "'A'", .str (("''" : Str) ++ repS "*" 30), .str (repS "(" 40), .str " 'a'", .str "'a' ", .str "('a' 'b')*|", .str "/"]) M
  rw [e1, e2, e3]
  exact q
def sp_law : DS1 := fun ds M Q => ∃ ns : List Int, ds = [.slst (ns.map D.int)] ∧ ns.length ≤ 63 ∧ ∀ M', Q (.bl true) M'
/-- the type that is read by hand -/
abbrev T0 : Ty := .star (.pair true (.leaf false [10, 32]) (.leaf true [10, 32, 44]))
theorem t0_sh : S T0.sh = "('/ '|[/ ,])*" := by decide +kernel
theorem t0_read : readP T0.sh = some T0 := by
  refine read_complete (by decide +kernel) (few_hi (by decide)) (by decide) (by decide +kernel)
abbrev pT0 : PyData := .tuple [.str "star", .tuple [.str "or", .tuple [.str "text", .str "\x0a "], .tuple [.str "sign", .str "\x0a ,"]]]
theorem t0_eq : PyData.eqv pT0 pT0 = true := by decide +kernel
theorem rd_law : ∀ ds M Q, sp_law ds M Q → ds.length = 1 ∧ r_law sp_hand sp_read sp_cells sp_lright sp_pot { nx := fun _ M' => Q .non M', rt := Q } (dstart N_law ds) M := by
  rintro _ M Q ⟨ns, rfl, ln, q⟩
  refine ⟨rfl, ?_⟩
  refine ⟨rfl, ?_⟩
  show forW _ _ _ _ (handL.map D.str) _ _
  refine for_inv (fun _ ρ M1 => ∃ o1 o2, ρ = [some (.slst (ns.map D.int)), o1, o2, none]) (fun _ _ _ _ => trivial) _ 0 _ _ ⟨none, none, rfl⟩ ?_ ?_
  · rintro v hv m ρ M1 ⟨o1, o2, rfl⟩ _ N hN
    obtain ⟨y, hy, rfl⟩ := List.mem_map.mp hv
    have ok := List.all_eq_true.mp hand_none y hy
    simp only [Bool.and_eq_true, decide_eq_true_eq] at ok
    have hn : readP y.cps.toList = none := by
      cases e : readP y.cps.toList with
      | none => rfl
      | some t => rw [e] at ok; exact nomatch ok.2
    refine ⟨_, rfl, .inl ⟨y.cps.toList, by rw [← S_of], by rw [Array.length_toList]; exact ok.1, (fun t ht => by rw [hn] at ht; cases ht), fun _ => ⟨.inr rfl, _, _, rfl, ix0, ?_⟩⟩⟩
    refine ⟨_, rfl, "NoTypeText", _, rfl, .inr rfl, true, by rw [isC_same], ?_⟩
    exact hN _ _ ⟨_, _, rfl⟩
  · rintro ρ M1 ⟨o1, o2, rfl⟩
    refine .inl ⟨T0.sh, by rw [t0_sh], by decide, fun t ht => ?_, fun hn => by rw [t0_read] at hn; cases hn⟩
    rw [t0_read] at ht
    cases ht
    refine ⟨small (by simp), small (by simp), small (by simp), small (by simp), ?_⟩
    refine ⟨pT0, pT0, by rfl, by rfl, by decide +kernel, by decide +kernel, false, by rw [t0_eq]; rfl, ?_⟩
    refine ⟨_, rfl, ns, rfl, by omega, fun n hn => ?_⟩
    have lr : (rgD 0 n).length = n := by unfold rgD; simp
    refine lc_inv (fun _ _ => True) (fun d => d = .bl true) (fun _ _ _ => trivial) _ [] M1 trivial (fun d hd => nomatch hd) ?_ (small (by rw [lr]; simp; omega)) ?_
    · intro d hd m M' _ hm K1 K2 hk
      unfold rgD at hd
      obtain ⟨i, hi, rfl⟩ := List.mem_map.mp hd
      have hi' := List.mem_range.mp hi
      refine ⟨_, rfl, _, rfl, ns, i, by simp, by omega, by omega, fun a M2 ha pa => ?_⟩
      exact ⟨a, 0, rfl, pa, by omega, fun M3 _ => hk _ _ rfl trivial⟩
    · intro ds M' l pd _
      obtain ⟨bs, b1, b2⟩ := trues pd
      refine newTr ⟨_, bs, rfl, b1, ?_⟩
      show Q (.bl (bs.all id)) M'
      rw [b2]
      exact q M'
end K02

set_option maxHeartbeats 8000000
/-! K02k: the defs together. -/
namespace K02
open PySem PySem.Spec L2 DL KB
open PyProof.Rows hiding St signs

section
variable {P : Program} {w : World} {K : PySem.W.Frag} {mg : Str → Option Value} {base : Heap}
theorem CalM.none {T : TT8} {x m qual : Str} {st : Stmt} {ps : List Str} {k : Nat} (h : HasM K x m qual st ps) : CalM P w K T mg base k x m fun _ _ _ => False := by
  obtain ⟨C, f, oc, od, kV, doc, pm, an, cdv, ct, osl, n, c, me, lk, hcd, b⟩ := h.ex
  have no : ∀ {vs H Q E}, ¬ lift K T (quiet fun _ _ _ => False) vs H Q E := fun {vs H Q E} z => by
    obtain ⟨_, _, _, _, _, _, _, _, z, _⟩ := z
    exact z
  exact ⟨C, f, _, ps, n, c, me, ⟨fun z => (no z).elim, fun _ _ _ _ _ z => (no z).elim⟩, b⟩
/-- the tables of the three defs that make lambdas -/
abbrev TT3 (PI PR PL : Addr) : TT8 := [(PI, lamQ "_law_is_read"), (PR, lamQ "_law_right"), (PL, lamQ "law")]
theorem all_law (T : Txt K mg) (XE : Exs P w K mg base) {CS CT CE : Addr} (XK : Kns K mg CS CT CE) {cI PI cR PR cL PL : Addr} (tI : LamX.TabB base mg cI PI) (tR : LamX.TabB base mg cR PR) (tL : LamX.TabB base mg cL PL) (ne : PI ≠ PR ∧ PI ≠ PL ∧ PR ≠ PL)
    (hI : HasL K mg "_law_is_read" st__law_is_read ["text"] cI) (hR : HasL K mg "_law_right" st__law_right ["pot"] cR)
    {f : Addr} {oc : Value} {od : Option Addr} {dV kV doc pm : Value} {an : Option Addr} {ct : Value} {osl : Array (Option Value)}
    (lk : K.lookup f = some ⟨oc, od, .func (PySem.W.fnOf "law" "law" (L2.defArgs st_law) (L2.defBody st_law) (L2.defScope st_law) dV kV doc pm an (.ref cL) ct), osl⟩) (hcd : PySem.W.codeIn K (.ref cL) "law" = true) :
    GnOk P w K mg base (L2.CX P w) 113 f (PySem.W.fnOf "law" "law" (L2.defArgs st_law) (L2.defBody st_law) (L2.defScope st_law) dV kV doc pm an (.ref cL) ct) ["script"] (lift K (TT3 PI PR PL) (quiet sp_law)) := by
  have t1 := c_is_tuple (P := P) (w := w) (base := base) (k := 0) (TT := TT3 PI PR PL) T rd_tuple
  have t2 := c_is_word (P := P) (w := w) (base := base) (k := 0) (TT := TT3 PI PR PL) T rd_word
  have t3 := c_is_text (P := P) (w := w) (base := base) (k := 0) (TT := TT3 PI PR PL) T rd_text
  have t4 := c_is_leaf (k := 1) T t3 rd_leaf
  have t5 := c_is_node (k := 2) T (t1.mono (by decide)) (t2.mono (by decide)) t4 rd_node
  have t6 := c_parts_of (P := P) (w := w) (base := base) (k := 0) (TT := TT3 PI PR PL) T rd_parts
  have t7 := (c_is_type (k := 3) T t5 (t6.mono (by decide)) rd_type).weak wk_type
  have t8 := c_check_type (k := 4) T XE (by decide) t7 rd_check
  have t9 := c_signs_shown (P := P) (w := w) (base := base) (k := 0) (TT := TT3 PI PR PL) T rd_sh
  have sh : ∀ N : Nat, Cal1 P w K (TT3 PI PR PL) mg base (N + 2) "shown" (sp_shown N) := by
    intro N
    induction N with
    | zero => exact (Cal.none T.h_shown fun ds M Q E h => by obtain ⟨_, _, _, h, _⟩ := h; omega).mono (by decide)
    | succ N ih => exact c_shown (k := N + 2) T (t9.mono (by omega)) ih (rd_shown N)
  have t10 := c_type_text (k := 42) T (t8.mono (by decide)) (sh 40) rd_ttext
  have m1 := c_TypeText_init (P := P) (w := w) (base := base) (k := 0) (TT := TT3 PI PR PL) T rd_init
  have m2 := c_TypeText_is_next (P := P) (w := w) (base := base) (k := 0) (TT := TT3 PI PR PL) T rd_next
  have m3 := c_TypeText_row_to (k := 1) T m2 rd_row
  have m4 := c_TypeText_leaf (k := 2) T m3 t4 rd_lf
  have nd : ∀ n : Nat, CalM P w K (TT3 PI PR PL) mg base (2 * n + 4) "TypeText" "node" (sp_nodeR n) := by
    intro n
    induction n with
    | zero => exact c_TypeText_node (k := 3) T (m2.mono (by decide)) m4 (CalM.none T.h_TypeText_couple) (rd_node' 0 _ fun m h => nomatch h)
    | succ n ih =>
      have cp := c_TypeText_couple (k := 2 * n + 4) T ih (m2.mono (by omega)) (rd_couple n)
      exact c_TypeText_node (k := 2 * n + 5) T (m2.mono (by omega)) (m4.mono (by omega)) cp (rd_node' (n + 1) _ fun m h => by cases h; rfl)
  have t11 := Cal.weak (c_read_type (k := 64) T XE (by decide) (j := 1) (by decide) m1 (nd 30) (t7.mono (by decide)) rd_read1) wk_read
  have u1 := c__law_take (P := P) (w := w) (base := base) (k := 0) (TT := TT3 PI PR PL) T rd_take
  have u2 := c__law_of (k := 1) T u1 rd_of
  have u3 := (c__law_some (k := 1) T u1 rd_some).weak wk_some
  have u4 := c__law_signs (P := P) (w := w) (base := base) (k := 0) (TT := TT3 PI PR PL) T rd_signs
  have u5 := c__law_few (k := 2) T u3 u2 (u4.mono (by decide)) rd_few
  have u6 := c__law_leaf (k := 2) T (u1.mono (by decide)) u2 rd_leafd
  have dr : ∀ N : Nat, Cal1 P w K (TT3 PI PR PL) mg base (N + 3) "_law_type_drawn" (sp_drawn N) := by
    intro N
    induction N with
    | zero => exact (Cal.none T.h__law_type_drawn fun ds M Q E h => by obtain ⟨_, _, _, _, _, _, h, _⟩ := h; omega).mono (by decide)
    | succ N ih => exact c__law_type_drawn (k := N + 3) T (u1.mono (by omega)) (u6.mono (by omega)) ih (rd_drawn N)
  have ls : ∀ N : Nat, Cal1 P w K (TT3 PI PR PL) mg base (N + 1) "_law_shown" (sp_shown N) := by
    intro N
    induction N with
    | zero => exact (Cal.none T.h__law_shown fun ds M Q E h => by obtain ⟨_, _, _, h, _⟩ := h; omega).mono (by decide)
    | succ N ih => exact c__law_shown (k := N + 1) T ih (rd_lshown N)
  have u7 := c__law_is_read (k := 71) T XK (t11.mono (by decide)) (ls 70) (t7.mono (by decide)) tI (by simp) (by
    intro p hp e
    simp at hp
    rcases hp with rfl | rfl | rfl
    · rfl
    · exact absurd e.symm ne.1
    · exact absurd e.symm ne.2.1) hI rd_is_read
  have u8 := c__law_otherwise (k := 2) T (u1.mono (by decide)) u2 rd_other
  have u9 := c__law_right (k := 74) T XK ((dr 5).mono (by decide)) (u5.mono (by decide)) ((ls 40).mono (by decide)) (t10.mono (by decide)) (t11.mono (by decide)) (u8.mono (by decide)) (u1.mono (by decide)) u7 (u2.mono (by decide)) tR (by simp) (by
    intro p hp e
    simp at hp
    rcases hp with rfl | rfl | rfl
    · exact absurd e ne.1
    · rfl
    · exact absurd e.symm ne.2.2) hR rd_lright
  have v1 := c__law_hand (P := P) (w := w) (base := base) (k := 0) (TT := TT3 PI PR PL) T rd_hand
  have v2 := c__law_pot (P := P) (w := w) (base := base) (k := 0) (TT := TT3 PI PR PL) T rd_pot
  have v3 := c__law_cells (P := P) (w := w) (base := base) (k := 0) (TT := TT3 PI PR PL) T rd_cells
  exact c_law (k := 110) T XK (v1.mono (by decide)) (t11.mono (by decide)) (v3.mono (by decide)) (u9.mono (by decide)) (v2.mono (by decide)) tL (by simp) (by
    intro p hp e
    simp at hp
    rcases hp with rfl | rfl | rfl
    · exact absurd e ne.2.1
    · exact absurd e ne.2.2
    · rfl) lk hcd rd_law
end
end K02

set_option maxHeartbeats 8000000
/-! K02l: the exceptions' facts, the walk (turned from K83o). -/
namespace K02
open PySem PySem.Spec L2 DL KB
open PyProof.Rows hiding St signs
/-! ### the exceptions -/
section
variable {K : PySem.W.Frag} {h : Heap} {mg : Str → Option Value}
/-- what the written part says of a class of exceptions -/
structure XCls (K : PySem.W.Frag) (x : Str) (C : Addr) : Prop where
  a : PySem.W.nsIn K mainGlobals x = some (some (.ref C))
  o : OexC K C
  i : ∃ fI : Addr, PySem.W.findIn K (.ref C) "__init__" = some (some (.ref fI)) ∧ PySem.W.typeIn K (.ref fI) = some (.type "function") ∧ ∃ fd : FuncData, L2.Fun K "__init__" "TextError.__init__" st_init fI fd ∧ Binds K fd ["self", "value"] []
  nv : PySem.W.findIn K (.ref C) "value" = some none
  xf : XfC K C
  xc : ExcC K C
theorem exc_of {P : Program} {w : World} {base : Heap} (X : K.In h) (G : h.Ns mainGlobals mg) {x : Str} {C : Addr} (c : XCls K x C) (mv : PySem.W.nsIn K mainGlobals "ValueError" = some none) (vV : PySem.W.findCls K (.type "ValueError") (.type "type") "__init__" = some (.val (.builtin "ValueError.__init__"))) : ExC P w K mg base x := by
  obtain ⟨fI, i1, i2, fd, F, b⟩ := c.i
  exact ⟨C, fI, fd, PySem.W.mg_of X G c.a, c.a, c.o, i1, i2, c.nv, ok_init F (PySem.W.mg_none_of X G mv) vV, b⟩
theorem kns_of (X : K.In h) (G : h.Ns mainGlobals mg) {CS CT CE : Addr} (aS : PySem.W.nsIn K mainGlobals "TextError" = some (some (.ref CS))) (cT : XCls K "BadType" CT) (cE : XCls K "NoTypeText" CE)
    (s1 : PySem.W.exmOne K (.ref CT) (.ref CS) = some true) (s2 : PySem.W.exmOne K (.ref CE) (.ref CS) = some true)
    (k1 : PySem.W.kitOne K (.ref CT) (.ref CT) = some true) (k2 : PySem.W.kitOne K (.ref CE) (.ref CT) = some false) (k3 : PySem.W.kitOne K (.ref CT) (.ref CE) = some false) (k4 : PySem.W.kitOne K (.ref CE) (.ref CE) = some true) : Kns K mg CS CT CE := by
  have at_ : ∀ {x : Str} {C D : Addr}, XCls K x D → PySem.W.nsIn K mainGlobals x = some (some (.ref C)) → C = D := fun c e => by
    have := e.symm.trans c.a
    cases this
    rfl
  have ne1 : isC "BadType" "NoTypeText" = false := by decide
  have ne2 : isC "NoTypeText" "BadType" = false := by decide
  refine ⟨PySem.W.mg_of X G aS, PySem.W.mg_of X G cT.a, PySem.W.mg_of X G cE.a, ⟨?_⟩, ?_, ?_, ?_⟩
  · rintro x C (rfl | rfl) e
    · obtain rfl := at_ cT e; exact ⟨cT.xf, cT.xc, cT.nv⟩
    · obtain rfl := at_ cE e; exact ⟨cE.xf, cE.xc, cE.nv⟩
  · rintro x C (rfl | rfl) e
    · obtain rfl := at_ cT e; exact s1
    · obtain rfl := at_ cE e; exact s2
  · rintro x C (rfl | rfl) e
    · obtain rfl := at_ cT e; rw [isC_same]; exact k1
    · obtain rfl := at_ cE e; rw [ne1]; exact k2
  · rintro x C (rfl | rfl) e
    · obtain rfl := at_ cT e; rw [ne2]; exact k3
    · obtain rfl := at_ cE e; rw [isC_same]; exact k4
theorem cls_mk {x : Str} {C fI : Addr} {nm q N bs bm sn sub ab col dd k0 k1 k2 k3 k5} {oc : Value} {od : Option Addr} {kV doc pm : Value} {an : Option Addr} {cd ct : Value} {osl : Array (Option Value)}
    (a : PySem.W.nsIn K mainGlobals x = some (some (.ref C))) (l : K.lookup C = some (excClassObj nm q C N bs bm true sn sub ab col dd k0 k1 k2 k3 k5 "ValueError.__new__")) (r : PySem.HandSPX.refsVE bm = true)
    (sa : PySem.W.findIn K (.ref C) "__setattr__" = some (some (.builtin "object.__setattr__"))) (ex : PySem.W.subIn K (.ref C) (.type "BaseException") = some true) (ty : PySem.W.typeIn K (.ref C) = some (.type "type")) (kC : PySem.W.keepIn K (.ref C) = true)
    (i1 : PySem.W.findIn K (.ref C) "__init__" = some (some (.ref fI))) (i2 : PySem.W.typeIn K (.ref fI) = some (.type "function")) (lI : K.lookup fI = some ⟨oc, od, .func (PySem.W.fnOf "__init__" "TextError.__init__" (L2.defArgs st_init) (L2.defBody st_init) (L2.defScope st_init) .none kV doc pm an cd ct), osl⟩)
    (cI : PySem.W.codeIn K cd "TextError.__init__" = true) (kI : PySem.W.keepIn K (.ref fI) = true) (nv : PySem.W.findIn K (.ref C) "value" = some none)
    (ga : PySem.W.findIn K (.ref C) "__getattribute__" = some (some (.builtin "BaseException.__getattribute__"))) (gg : PySem.W.findIn K (.ref C) "__getattr__" = some none) (hd : PySem.W.hasDictIn K C = true)
    (ha : PySem.W.findIn K (.ref C) "__class__" = some (some (.builtin "object.__class__"))) (hn : PySem.W.specialIn K (.builtin "object.__class__") "__get__" = some (some (.builtin "getset_descriptor.__get__"))) (ht : PySem.W.takesIn K (.builtin "object.__class__") = some true) (hm : PySem.W.mroIn K C (.type "object") = some true) : XCls K x C := by
  refine ⟨a, ⟨⟨nm, q, N, bs, bm, sn, sub, ab, col, dd, k0, k1, k2, k3, k5, l, r⟩, sa, ex, ty, kC⟩, ⟨fI, i1, i2, _, ⟨⟨oc, od, kV, doc, pm, an, cd, ct, osl, rfl, lI, cI⟩, kI⟩, .all fun us hl => match us, hl with | [_, _], _ => rfl⟩, nv, ⟨ga, gg, ex, hd⟩, ⟨ga, gg, ex, hd, ha, hn, ht, hm⟩⟩
/-- the heap without its tables -/
def noTab (H : L2.Hp) : L2.Hp := fun b => match H b with
  | some (.tbl _) => none
  | o => o
theorem noTab_sub (H : L2.Hp) : L2.Same (noTab H) H := by
  intro b o e
  unfold noTab at e
  split at e
  · cases e
  · exact e
theorem noTab_nt (H : L2.Hp) (b : Addr) (ps : Array Value) : noTab H b ≠ some (.tbl ps) := by
  intro e
  unfold noTab at e
  split at e
  · cases e
  · rename_i h
    exact h ps e
theorem noTab_keep {H : L2.Hp} {b : Addr} {o : L2.HO} (h : H b = some o) (n : ∀ ps, o ≠ .tbl ps) : noTab H b = some o := by
  unfold noTab
  split
  · rename_i ps e
    rw [h] at e
    cases e
    exact absurd rfl (n ps)
  · exact h
theorem due {H : L2.Hp} {a PI PR PL : Addr} {ns : List Int} (hl : ns.length ≤ 63) (hS : L2.SqL K H a (ns.map L2.V.int)) (h1 : H PI = some (.tbl #[])) (h2 : H PR = some (.tbl #[])) (h3 : H PL = some (.tbl #[])) : lift K (TT3 PI PR PL) (quiet sp_law) [.ref a] H (fun v _ => v = .bl true) fun _ _ _ => False := by
  have hS' : L2.SqL K (noTab H) a (ns.map L2.V.int) := by
    rcases hS with (e | ⟨o, e⟩) | e
    · exact .inl (.inl (noTab_keep e fun ps z => by cases z))
    · exact .inl (.inr ⟨o, noTab_keep e fun ps z => by cases z⟩)
    · exact .inr e
  refine ⟨[.slst (ns.map D.int)], noTab H, fun _ => none, fun d _ => d = .bl true, fun _ _ _ => False, .cons (.slst hS' (of_ints ns)) .nil, ⟨noTab_sub H, (fun a m e => nomatch e), noTab_nt H⟩, ?_, ⟨ns, rfl, hl, fun _ => rfl⟩, ?_, fun _ _ _ _ _ _ _ _ _ z => z.elim⟩
  · intro p hp
    simp at hp
    rcases hp with rfl | rfl | rfl
    · exact .nil h1
    · exact .nil h2
    · exact .nil h3
  · rintro v d F M H' s rp rfl
    cases rp
    rfl
/-- what the end asks of the written part -/
structure End02 (q : Program) (K : PySem.W.Frag) (mg : Str → Option Value) (fa : Addr) : Prop where
  law : mg "law" = some (.ref fa)
  txt : Txt K mg
  dL : Dfn K "law" st_law
  dI : Dfn K "_law_is_read" st__law_is_read
  dR : Dfn K "_law_right" st__law_right
  tabs : ∃ cI PI cR PR cL PL : Addr, TabsOf q K [("_law_is_read", cI, PI), ("_law_right", cR, PR), ("law", cL, PL)] ∧ PI ≠ PR ∧ PI ≠ PL ∧ PR ≠ PL
  exs : ∀ (P : Program) (w : World) (base : Heap), Exs P w K mg base
  kns : ∃ CS CT CE : Addr, Kns K mg CS CT CE
theorem walk {l : PySem.W.OpenLaw} {q : Program} {loose : List Str} {XP : (Str → Option Value) → Heap → Prop} {YP : World → Heap → Prop} {d : DefRec} {K : Params → PySem.W.Frag} (hn : l.most = some 63) (hdf : d.params.defaults = [])
    (hY : ∀ (w : World) (h : Heap), YP w h → (K w.params).In h)
    (F : ∀ (w : World) (mg : Str → Option Value) (fa : Addr) (h : Heap), (K w.params).In h → h.Ns mainGlobals mg → mg d.name = some (.ref fa) → End02 q (K w.params) mg fa) :
    PySem.W.WalkO q loose XP YP l.row.toRowW d [] (fun f vs => PySem.call f vs) := by
  refine gwalkT (n := 63) (k := 113) (x := "script") hn (by decide) hdf ⟨rfl, by decide, by decide⟩ hY ?_
  intro w mg fa h X G m
  have E := F w mg fa h X G m
  obtain ⟨cI, PI, cR, PR, cL, PL, tabs, ne⟩ := E.tabs
  obtain ⟨CS, CT, CE, XK⟩ := E.kns
  obtain ⟨f, oc, od, kV, doc, pm, an, cd, ct, osl, a, lk, hcd, k⟩ := E.dL
  have e := E.law.symm.trans (PySem.W.mg_of X G a)
  cases e
  have tI := tabs ("_law_is_read", cI, PI) (by simp)
  have tR := tabs ("_law_right", cR, PR) (by simp)
  have tL := tabs ("law", cL, PL) (by simp)
  obtain rfl := code_tab a lk tL.2.1
  have hI := hasL_of (ps := ["text"]) X G E.dI tI.2.1 fun _ _ _ _ _ _ us hl => match us, hl with | [_], _ => rfl
  have hR := hasL_of (ps := ["pot"]) X G E.dR tR.2.1 fun _ _ _ _ _ _ us hl => match us, hl with | [_], _ => rfl
  refine ⟨_, lift (K w.params) (TT3 PI PR PL) (quiet sp_law), PySem.W.fnOf "law" "law" (L2.defArgs st_law) (L2.defBody st_law) (L2.defScope st_law) .none kV doc pm an (.ref cL) ct, tabs, fun s v => .of_eq rfl, ?_, ?_⟩
  · intro H a ns hl hT hS
    exact due hl hS (hT ("_law_is_read", cI, PI) (by simp)) (hT ("_law_right", cR, PR) (by simp)) (hT ("law", cL, PL) (by simp))
  · intro base KB NB TB
    exact all_law E.txt (E.exs _ _ _) XK (TB ("_law_is_read", cI, PI) (by simp)) (TB ("_law_right", cR, PR) (by simp)) (TB ("law", cL, PL) (by simp)) ne hI hR lk hcd
end
end K02

set_option maxHeartbeats 8000000
/-! K02z: the end. -/
namespace K02
open PySem PySem.Spec L2 DL KB
open PyProof.Rows hiding St signs

theorem txt_mk {K : PySem.W.Frag} {h : Heap} {mg : Str → Option Value} (X : K.In h) (G : h.Ns mainGlobals mg) {t_AGAIN : Tok} {t_BAR : Tok} {t_BLANK : Tok} {t_CAT : Tok} {t_FEED : Tok} {T_LEAVES : Addr} {od_LEAVES : Option Addr} {its_LEAVES : Array Value} {n_LEAVES : Nat} {sl_LEAVES : Array (Option Value)} {t_MOST_DEEP : Tok} {t_MOST_LEAF : Tok} {t_MOST_NODES : Tok} {t_OR : Tok} {t_PAIR : Tok} {T_PAIRS : Addr} {od_PAIRS : Option Addr} {its_PAIRS : Array Value} {n_PAIRS : Nat} {sl_PAIRS : Array (Option Value)} {t_QUOTE : Tok} {t_SIGN : Tok} {t_SIGNS : Tok} {t_STAR : Tok} {t_TEXT : Tok} {t_TRIPLE : Tok} {T_WORDS : Addr} {od_WORDS : Option Addr} {its_WORDS : Array Value} {n_WORDS : Nat} {sl_WORDS : Array (Option Value)} {t_FEED_SIGN : Tok} {C_TypeText : Addr} {F_TypeText_init : Addr} {oc_TypeText_init kV_TypeText_init doc_TypeText_init pm_TypeText_init cd_TypeText_init ct_TypeText_init : Value} {od_TypeText_init an_TypeText_init : Option Addr} {osl_TypeText_init : Array (Option Value)} {F_TypeText_is_next : Addr} {oc_TypeText_is_next kV_TypeText_is_next doc_TypeText_is_next pm_TypeText_is_next cd_TypeText_is_next ct_TypeText_is_next : Value} {od_TypeText_is_next an_TypeText_is_next : Option Addr} {osl_TypeText_is_next : Array (Option Value)} {F_TypeText_row_to : Addr} {oc_TypeText_row_to kV_TypeText_row_to doc_TypeText_row_to pm_TypeText_row_to cd_TypeText_row_to ct_TypeText_row_to : Value} {od_TypeText_row_to an_TypeText_row_to : Option Addr} {osl_TypeText_row_to : Array (Option Value)} {F_TypeText_leaf : Addr} {oc_TypeText_leaf kV_TypeText_leaf doc_TypeText_leaf pm_TypeText_leaf cd_TypeText_leaf ct_TypeText_leaf : Value} {od_TypeText_leaf an_TypeText_leaf : Option Addr} {osl_TypeText_leaf : Array (Option Value)} {F_TypeText_couple : Addr} {oc_TypeText_couple kV_TypeText_couple doc_TypeText_couple pm_TypeText_couple cd_TypeText_couple ct_TypeText_couple : Value} {od_TypeText_couple an_TypeText_couple : Option Addr} {osl_TypeText_couple : Array (Option Value)} {F_TypeText_node : Addr} {oc_TypeText_node kV_TypeText_node doc_TypeText_node pm_TypeText_node cd_TypeText_node ct_TypeText_node : Value} {od_TypeText_node an_TypeText_node : Option Addr} {osl_TypeText_node : Array (Option Value)}
    (z_abs : PySem.W.nsIn K mainGlobals "abs" = some none)
    (z_all : PySem.W.nsIn K mainGlobals "all" = some none)
    (z_int : PySem.W.nsIn K mainGlobals "int" = some none)
    (z_isinstance : PySem.W.nsIn K mainGlobals "isinstance" = some none)
    (z_len : PySem.W.nsIn K mainGlobals "len" = some none)
    (z_list : PySem.W.nsIn K mainGlobals "list" = some none)
    (z_max : PySem.W.nsIn K mainGlobals "max" = some none)
    (z_min : PySem.W.nsIn K mainGlobals "min" = some none)
    (z_range : PySem.W.nsIn K mainGlobals "range" = some none)
    (z_repr : PySem.W.nsIn K mainGlobals "repr" = some none)
    (z_set : PySem.W.nsIn K mainGlobals "set" = some none)
    (z_sorted : PySem.W.nsIn K mainGlobals "sorted" = some none)
    (z_str : PySem.W.nsIn K mainGlobals "str" = some none)
    (z_sum : PySem.W.nsIn K mainGlobals "sum" = some none)
    (z_tuple : PySem.W.nsIn K mainGlobals "tuple" = some none)
    (z_zip : PySem.W.nsIn K mainGlobals "zip" = some none)
    (a_AGAIN : PySem.W.nsIn K mainGlobals "AGAIN" = some (some (.str "*" t_AGAIN)))
    (a_BAR : PySem.W.nsIn K mainGlobals "BAR" = some (some (.str "|" t_BAR)))
    (a_BLANK : PySem.W.nsIn K mainGlobals "BLANK" = some (some (.str " " t_BLANK)))
    (a_CAT : PySem.W.nsIn K mainGlobals "CAT" = some (some (.str "cat" t_CAT)))
    (a_FEED : PySem.W.nsIn K mainGlobals "FEED" = some (some (.str "\x0a" t_FEED)))
    (a_LEAVES : PySem.W.nsIn K mainGlobals "LEAVES" = some (some (.ref T_LEAVES))) (l_LEAVES : K.lookup T_LEAVES = some ⟨.type "tuple", od_LEAVES, .seq its_LEAVES n_LEAVES, sl_LEAVES⟩) (v_LEAVESx : Vals ((["text", "sign"] : List Str).map L2.V.str) its_LEAVES.toList)
    (a_MOST_DEEP : PySem.W.nsIn K mainGlobals "MOST_DEEP" = some (some (.int 30 t_MOST_DEEP)))
    (a_MOST_LEAF : PySem.W.nsIn K mainGlobals "MOST_LEAF" = some (some (.int 20 t_MOST_LEAF)))
    (a_MOST_NODES : PySem.W.nsIn K mainGlobals "MOST_NODES" = some (some (.int 120 t_MOST_NODES)))
    (a_OR : PySem.W.nsIn K mainGlobals "OR" = some (some (.str "or" t_OR)))
    (a_PAIR : PySem.W.nsIn K mainGlobals "PAIR" = some (some (.int 2 t_PAIR)))
    (a_PAIRS : PySem.W.nsIn K mainGlobals "PAIRS" = some (some (.ref T_PAIRS))) (l_PAIRS : K.lookup T_PAIRS = some ⟨.type "tuple", od_PAIRS, .seq its_PAIRS n_PAIRS, sl_PAIRS⟩) (v_PAIRSx : Vals ((["cat", "or"] : List Str).map L2.V.str) its_PAIRS.toList)
    (a_QUOTE : PySem.W.nsIn K mainGlobals "QUOTE" = some (some (.str "'" t_QUOTE)))
    (a_SIGN : PySem.W.nsIn K mainGlobals "SIGN" = some (some (.str "sign" t_SIGN)))
    (a_SIGNS : PySem.W.nsIn K mainGlobals "SIGNS" = some (some (.str "\x0a ,-.0123456789:;=abcdefghijklmnopqrstuvwxyz" t_SIGNS)))
    (a_STAR : PySem.W.nsIn K mainGlobals "STAR" = some (some (.str "star" t_STAR)))
    (a_TEXT : PySem.W.nsIn K mainGlobals "TEXT" = some (some (.str "text" t_TEXT)))
    (a_TRIPLE : PySem.W.nsIn K mainGlobals "TRIPLE" = some (some (.int 3 t_TRIPLE)))
    (a_WORDS : PySem.W.nsIn K mainGlobals "WORDS" = some (some (.ref T_WORDS))) (l_WORDS : K.lookup T_WORDS = some ⟨.type "tuple", od_WORDS, .seq its_WORDS n_WORDS, sl_WORDS⟩) (v_WORDSx : Vals ((["text", "sign", "cat", "or", "star"] : List Str).map L2.V.str) its_WORDS.toList)
    (a_FEED_SIGN : PySem.W.nsIn K mainGlobals "FEED_SIGN" = some (some (.str "/" t_FEED_SIGN)))
    (d_is_tuple : Dfn K "is_tuple" st_is_tuple)
    (d_is_word : Dfn K "is_word" st_is_word)
    (d_is_text : DfnT K "is_text" st_is_text)
    (d_is_leaf : Dfn K "is_leaf" st_is_leaf)
    (d_is_node : Dfn K "is_node" st_is_node)
    (d_parts_of : Dfn K "parts_of" st_parts_of)
    (d_is_type : Dfn K "is_type" st_is_type)
    (d_check_type : Dfn K "check_type" st_check_type)
    (d_signs_shown : Dfn K "signs_shown" st_signs_shown)
    (d_shown : Dfn K "shown" st_shown)
    (d_type_text : Dfn K "type_text" st_type_text)
    (d_read_type : Dfn K "read_type" st_read_type)
    (d__law_pot : Dfn K "_law_pot" st__law_pot)
    (d__law_take : Dfn K "_law_take" st__law_take)
    (d__law_of : Dfn K "_law_of" st__law_of)
    (d__law_cells : Dfn K "_law_cells" st__law_cells)
    (d__law_some : Dfn K "_law_some" st__law_some)
    (d__law_heard : Dfn K "_law_heard" st__law_heard)
    (d__law_signs : Dfn K "_law_signs" st__law_signs)
    (d__law_few : Dfn K "_law_few" st__law_few)
    (d__law_leaf : Dfn K "_law_leaf" st__law_leaf)
    (d__law_type_drawn : Dfn K "_law_type_drawn" st__law_type_drawn)
    (d__law_shown : Dfn K "_law_shown" st__law_shown)
    (d__law_is_read : Dfn K "_law_is_read" st__law_is_read)
    (d__law_otherwise : Dfn K "_law_otherwise" st__law_otherwise)
    (d__law_hand : Dfn K "_law_hand" st__law_hand)
    (d__law_right : Dfn K "_law_right" st__law_right)
    (aC_TypeText : PySem.W.nsIn K mainGlobals "TypeText" = some (some (.ref C_TypeText)))
    (pg_TypeText : PySem.W.plainGet K C_TypeText Str.empty = true)
    (hd_TypeText : PySem.W.hasDictIn K C_TypeText = true)
    (po_TypeText : PySem.W.plainOver K C_TypeText = true)
    (sa_TypeText : PySem.W.findIn K (.ref C_TypeText) "__setattr__" = some (some (.builtin "object.__setattr__")))
    (mk_TypeText : PySem.W.makesIn K C_TypeText = true)
    (kc_TypeText : PySem.W.keepIn K (.ref C_TypeText) = true)
    (a_TypeText_init : PySem.W.findIn K (.ref C_TypeText) "__init__" = some (some (.ref F_TypeText_init)))
    (i_TypeText_init : PySem.W.isFn K (.ref F_TypeText_init) = true)
    (l_TypeText_init : K.lookup F_TypeText_init = some ⟨oc_TypeText_init, od_TypeText_init, .func (PySem.W.fnOf "__init__" "TypeText.__init__" (L2.defArgs st_TypeText_init) (L2.defBody st_TypeText_init) (L2.defScope st_TypeText_init) .none kV_TypeText_init doc_TypeText_init pm_TypeText_init an_TypeText_init cd_TypeText_init ct_TypeText_init), osl_TypeText_init⟩)
    (c_TypeText_init : PySem.W.codeIn K cd_TypeText_init "TypeText.__init__" = true)
    (k_TypeText_init : PySem.W.keepIn K (.ref F_TypeText_init) = true)
    (a_TypeText_is_next : PySem.W.findIn K (.ref C_TypeText) "is_next" = some (some (.ref F_TypeText_is_next)))
    (i_TypeText_is_next : PySem.W.isFn K (.ref F_TypeText_is_next) = true)
    (l_TypeText_is_next : K.lookup F_TypeText_is_next = some ⟨oc_TypeText_is_next, od_TypeText_is_next, .func (PySem.W.fnOf "is_next" "TypeText.is_next" (L2.defArgs st_TypeText_is_next) (L2.defBody st_TypeText_is_next) (L2.defScope st_TypeText_is_next) .none kV_TypeText_is_next doc_TypeText_is_next pm_TypeText_is_next an_TypeText_is_next cd_TypeText_is_next ct_TypeText_is_next), osl_TypeText_is_next⟩)
    (c_TypeText_is_next : PySem.W.codeIn K cd_TypeText_is_next "TypeText.is_next" = true)
    (k_TypeText_is_next : PySem.W.keepIn K (.ref F_TypeText_is_next) = true)
    (a_TypeText_row_to : PySem.W.findIn K (.ref C_TypeText) "row_to" = some (some (.ref F_TypeText_row_to)))
    (i_TypeText_row_to : PySem.W.isFn K (.ref F_TypeText_row_to) = true)
    (l_TypeText_row_to : K.lookup F_TypeText_row_to = some ⟨oc_TypeText_row_to, od_TypeText_row_to, .func (PySem.W.fnOf "row_to" "TypeText.row_to" (L2.defArgs st_TypeText_row_to) (L2.defBody st_TypeText_row_to) (L2.defScope st_TypeText_row_to) .none kV_TypeText_row_to doc_TypeText_row_to pm_TypeText_row_to an_TypeText_row_to cd_TypeText_row_to ct_TypeText_row_to), osl_TypeText_row_to⟩)
    (c_TypeText_row_to : PySem.W.codeIn K cd_TypeText_row_to "TypeText.row_to" = true)
    (k_TypeText_row_to : PySem.W.keepIn K (.ref F_TypeText_row_to) = true)
    (a_TypeText_leaf : PySem.W.findIn K (.ref C_TypeText) "leaf" = some (some (.ref F_TypeText_leaf)))
    (i_TypeText_leaf : PySem.W.isFn K (.ref F_TypeText_leaf) = true)
    (l_TypeText_leaf : K.lookup F_TypeText_leaf = some ⟨oc_TypeText_leaf, od_TypeText_leaf, .func (PySem.W.fnOf "leaf" "TypeText.leaf" (L2.defArgs st_TypeText_leaf) (L2.defBody st_TypeText_leaf) (L2.defScope st_TypeText_leaf) .none kV_TypeText_leaf doc_TypeText_leaf pm_TypeText_leaf an_TypeText_leaf cd_TypeText_leaf ct_TypeText_leaf), osl_TypeText_leaf⟩)
    (c_TypeText_leaf : PySem.W.codeIn K cd_TypeText_leaf "TypeText.leaf" = true)
    (k_TypeText_leaf : PySem.W.keepIn K (.ref F_TypeText_leaf) = true)
    (a_TypeText_couple : PySem.W.findIn K (.ref C_TypeText) "couple" = some (some (.ref F_TypeText_couple)))
    (i_TypeText_couple : PySem.W.isFn K (.ref F_TypeText_couple) = true)
    (l_TypeText_couple : K.lookup F_TypeText_couple = some ⟨oc_TypeText_couple, od_TypeText_couple, .func (PySem.W.fnOf "couple" "TypeText.couple" (L2.defArgs st_TypeText_couple) (L2.defBody st_TypeText_couple) (L2.defScope st_TypeText_couple) .none kV_TypeText_couple doc_TypeText_couple pm_TypeText_couple an_TypeText_couple cd_TypeText_couple ct_TypeText_couple), osl_TypeText_couple⟩)
    (c_TypeText_couple : PySem.W.codeIn K cd_TypeText_couple "TypeText.couple" = true)
    (k_TypeText_couple : PySem.W.keepIn K (.ref F_TypeText_couple) = true)
    (a_TypeText_node : PySem.W.findIn K (.ref C_TypeText) "node" = some (some (.ref F_TypeText_node)))
    (i_TypeText_node : PySem.W.isFn K (.ref F_TypeText_node) = true)
    (l_TypeText_node : K.lookup F_TypeText_node = some ⟨oc_TypeText_node, od_TypeText_node, .func (PySem.W.fnOf "node" "TypeText.node" (L2.defArgs st_TypeText_node) (L2.defBody st_TypeText_node) (L2.defScope st_TypeText_node) .none kV_TypeText_node doc_TypeText_node pm_TypeText_node an_TypeText_node cd_TypeText_node ct_TypeText_node), osl_TypeText_node⟩)
    (c_TypeText_node : PySem.W.codeIn K cd_TypeText_node "TypeText.node" = true)
    (k_TypeText_node : PySem.W.keepIn K (.ref F_TypeText_node) = true)
    (n_TypeText_text : PySem.W.findIn K (.ref C_TypeText) "text" = some none)
    (n_TypeText_at : PySem.W.findIn K (.ref C_TypeText) "at" = some none)
    (n_TypeText_deep : PySem.W.findIn K (.ref C_TypeText) "deep" = some none)
    (e1_FEED_FEED_SIGN : t_FEED ≠ 0) (e2_FEED_FEED_SIGN : t_FEED_SIGN ≠ 0) (e3_FEED_FEED_SIGN : t_FEED ≠ t_FEED_SIGN)
    (e1_FEED_SIGN_FEED : t_FEED_SIGN ≠ 0) (e2_FEED_SIGN_FEED : t_FEED ≠ 0) (e3_FEED_SIGN_FEED : t_FEED_SIGN ≠ t_FEED) : Txt K mg where
  m_abs := PySem.W.mg_none_of X G z_abs
  m_all := PySem.W.mg_none_of X G z_all
  m_int := PySem.W.mg_none_of X G z_int
  m_isinstance := PySem.W.mg_none_of X G z_isinstance
  m_len := PySem.W.mg_none_of X G z_len
  m_list := PySem.W.mg_none_of X G z_list
  m_max := PySem.W.mg_none_of X G z_max
  m_min := PySem.W.mg_none_of X G z_min
  m_range := PySem.W.mg_none_of X G z_range
  m_repr := PySem.W.mg_none_of X G z_repr
  m_set := PySem.W.mg_none_of X G z_set
  m_sorted := PySem.W.mg_none_of X G z_sorted
  m_str := PySem.W.mg_none_of X G z_str
  m_sum := PySem.W.mg_none_of X G z_sum
  m_tuple := PySem.W.mg_none_of X G z_tuple
  m_zip := PySem.W.mg_none_of X G z_zip
  g_AGAIN := glob_str X G a_AGAIN
  g_BAR := glob_str X G a_BAR
  g_BLANK := glob_str X G a_BLANK
  g_CAT := glob_str X G a_CAT
  g_FEED := glob_str X G a_FEED
  g_LEAVES := glob_texts (ws := ["text", "sign"]) X G a_LEAVES l_LEAVES v_LEAVESx (KB.small (by decide))
  g_MOST_DEEP := glob_int X G a_MOST_DEEP
  g_MOST_LEAF := glob_int X G a_MOST_LEAF
  g_MOST_NODES := glob_int X G a_MOST_NODES
  g_OR := glob_str X G a_OR
  g_PAIR := glob_int X G a_PAIR
  g_PAIRS := glob_texts (ws := ["cat", "or"]) X G a_PAIRS l_PAIRS v_PAIRSx (KB.small (by decide))
  g_QUOTE := glob_str X G a_QUOTE
  g_SIGN := glob_str X G a_SIGN
  g_SIGNS := glob_str X G a_SIGNS
  g_STAR := glob_str X G a_STAR
  g_TEXT := glob_str X G a_TEXT
  g_TRIPLE := glob_int X G a_TRIPLE
  g_WORDS := glob_texts (ws := ["text", "sign", "cat", "or", "star"]) X G a_WORDS l_WORDS v_WORDSx (KB.small (by decide))
  h_is_tuple := has_of X G d_is_tuple fun _ _ _ _ _ _ us hl => match us, hl with | [_, _, _], _ => rfl
  h_is_word := has_of X G d_is_word fun _ _ _ _ _ _ us hl => match us, hl with | [_, _], _ => rfl
  h_is_text := hasT_of X G d_is_text fun _ _ _ _ _ _ _ us its hl hi => match us, hl, its, hi with | [_, _], _, [_], _ => ⟨_, rfl, rfl⟩
  h_is_leaf := has_of X G d_is_leaf fun _ _ _ _ _ _ us hl => match us, hl with | [_], _ => rfl
  h_is_node := has_of X G d_is_node fun _ _ _ _ _ _ us hl => match us, hl with | [_], _ => rfl
  h_parts_of := has_of X G d_parts_of fun _ _ _ _ _ _ us hl => match us, hl with | [_], _ => rfl
  h_is_type := has_of X G d_is_type fun _ _ _ _ _ _ us hl => match us, hl with | [_], _ => rfl
  h_check_type := has_of X G d_check_type fun _ _ _ _ _ _ us hl => match us, hl with | [_], _ => rfl
  h_signs_shown := has_of X G d_signs_shown fun _ _ _ _ _ _ us hl => match us, hl with | [_], _ => rfl
  h_shown := has_of X G d_shown fun _ _ _ _ _ _ us hl => match us, hl with | [_], _ => rfl
  h_type_text := has_of X G d_type_text fun _ _ _ _ _ _ us hl => match us, hl with | [_], _ => rfl
  h_read_type := has_of X G d_read_type fun _ _ _ _ _ _ us hl => match us, hl with | [_], _ => rfl
  h__law_pot := has_of X G d__law_pot fun _ _ _ _ _ _ us hl => match us, hl with | [_, _], _ => rfl
  h__law_take := has_of X G d__law_take fun _ _ _ _ _ _ us hl => match us, hl with | [_, _], _ => rfl
  h__law_of := has_of X G d__law_of fun _ _ _ _ _ _ us hl => match us, hl with | [_, _], _ => rfl
  h__law_cells := has_of X G d__law_cells fun _ _ _ _ _ _ us hl => match us, hl with | [_, _], _ => rfl
  h__law_some := has_of X G d__law_some fun _ _ _ _ _ _ us hl => match us, hl with | [_, _, _], _ => rfl
  h__law_heard := has_of X G d__law_heard fun _ _ _ _ _ _ us hl => match us, hl with | [_], _ => rfl
  h__law_signs := has_of X G d__law_signs fun _ _ _ _ _ _ us hl => match us, hl with | [], _ => rfl
  h__law_few := has_of X G d__law_few fun _ _ _ _ _ _ us hl => match us, hl with | [_], _ => rfl
  h__law_leaf := has_of X G d__law_leaf fun _ _ _ _ _ _ us hl => match us, hl with | [_, _], _ => rfl
  h__law_type_drawn := has_of X G d__law_type_drawn fun _ _ _ _ _ _ us hl => match us, hl with | [_, _, _], _ => rfl
  h__law_shown := has_of X G d__law_shown fun _ _ _ _ _ _ us hl => match us, hl with | [_], _ => rfl
  h__law_is_read := has_of X G d__law_is_read fun _ _ _ _ _ _ us hl => match us, hl with | [_], _ => rfl
  h__law_otherwise := has_of X G d__law_otherwise fun _ _ _ _ _ _ us hl => match us, hl with | [_, _], _ => rfl
  h__law_hand := has_of X G d__law_hand fun _ _ _ _ _ _ us hl => match us, hl with | [], _ => rfl
  h__law_right := has_of X G d__law_right fun _ _ _ _ _ _ us hl => match us, hl with | [_], _ => rfl
  h_TypeText_init := ⟨C_TypeText, F_TypeText_init, oc_TypeText_init, od_TypeText_init, kV_TypeText_init, doc_TypeText_init, pm_TypeText_init, an_TypeText_init, cd_TypeText_init, ct_TypeText_init, osl_TypeText_init, PySem.W.mg_of X G aC_TypeText, aC_TypeText, ⟨mk_TypeText, a_TypeText_init, i_TypeText_init, kc_TypeText⟩, l_TypeText_init, c_TypeText_init, .all fun us hl => match us, hl with | [_, _], _ => rfl⟩
  h_TypeText_is_next := ⟨C_TypeText, F_TypeText_is_next, oc_TypeText_is_next, od_TypeText_is_next, kV_TypeText_is_next, doc_TypeText_is_next, pm_TypeText_is_next, an_TypeText_is_next, cd_TypeText_is_next, ct_TypeText_is_next, osl_TypeText_is_next, aC_TypeText, ⟨pg_TypeText, hd_TypeText, po_TypeText, sa_TypeText⟩, ⟨a_TypeText_is_next, i_TypeText_is_next, k_TypeText_is_next⟩, l_TypeText_is_next, c_TypeText_is_next, .all fun us hl => match us, hl with | [_, _], _ => rfl⟩
  h_TypeText_row_to := ⟨C_TypeText, F_TypeText_row_to, oc_TypeText_row_to, od_TypeText_row_to, kV_TypeText_row_to, doc_TypeText_row_to, pm_TypeText_row_to, an_TypeText_row_to, cd_TypeText_row_to, ct_TypeText_row_to, osl_TypeText_row_to, aC_TypeText, ⟨pg_TypeText, hd_TypeText, po_TypeText, sa_TypeText⟩, ⟨a_TypeText_row_to, i_TypeText_row_to, k_TypeText_row_to⟩, l_TypeText_row_to, c_TypeText_row_to, .all fun us hl => match us, hl with | [_, _], _ => rfl⟩
  h_TypeText_leaf := ⟨C_TypeText, F_TypeText_leaf, oc_TypeText_leaf, od_TypeText_leaf, kV_TypeText_leaf, doc_TypeText_leaf, pm_TypeText_leaf, an_TypeText_leaf, cd_TypeText_leaf, ct_TypeText_leaf, osl_TypeText_leaf, aC_TypeText, ⟨pg_TypeText, hd_TypeText, po_TypeText, sa_TypeText⟩, ⟨a_TypeText_leaf, i_TypeText_leaf, k_TypeText_leaf⟩, l_TypeText_leaf, c_TypeText_leaf, .all fun us hl => match us, hl with | [_, _, _], _ => rfl⟩
  h_TypeText_couple := ⟨C_TypeText, F_TypeText_couple, oc_TypeText_couple, od_TypeText_couple, kV_TypeText_couple, doc_TypeText_couple, pm_TypeText_couple, an_TypeText_couple, cd_TypeText_couple, ct_TypeText_couple, osl_TypeText_couple, aC_TypeText, ⟨pg_TypeText, hd_TypeText, po_TypeText, sa_TypeText⟩, ⟨a_TypeText_couple, i_TypeText_couple, k_TypeText_couple⟩, l_TypeText_couple, c_TypeText_couple, .all fun us hl => match us, hl with | [_], _ => rfl⟩
  h_TypeText_node := ⟨C_TypeText, F_TypeText_node, oc_TypeText_node, od_TypeText_node, kV_TypeText_node, doc_TypeText_node, pm_TypeText_node, an_TypeText_node, cd_TypeText_node, ct_TypeText_node, osl_TypeText_node, aC_TypeText, ⟨pg_TypeText, hd_TypeText, po_TypeText, sa_TypeText⟩, ⟨a_TypeText_node, i_TypeText_node, k_TypeText_node⟩, l_TypeText_node, c_TypeText_node, .all fun us hl => match us, hl with | [_], _ => rfl⟩
  f_TypeText_text := ⟨C_TypeText, aC_TypeText, ⟨pg_TypeText, hd_TypeText, po_TypeText, sa_TypeText⟩, n_TypeText_text⟩
  f_TypeText_at := ⟨C_TypeText, aC_TypeText, ⟨pg_TypeText, hd_TypeText, po_TypeText, sa_TypeText⟩, n_TypeText_at⟩
  f_TypeText_deep := ⟨C_TypeText, aC_TypeText, ⟨pg_TypeText, hd_TypeText, po_TypeText, sa_TypeText⟩, n_TypeText_deep⟩
  w_FEED_FEED_SIGN := ⟨t_FEED, t_FEED_SIGN, PySem.W.mg_of X G a_FEED, PySem.W.mg_of X G a_FEED_SIGN, e1_FEED_FEED_SIGN, e2_FEED_FEED_SIGN, e3_FEED_FEED_SIGN⟩
  w_FEED_SIGN_FEED := ⟨t_FEED_SIGN, t_FEED, PySem.W.mg_of X G a_FEED_SIGN, PySem.W.mg_of X G a_FEED, e1_FEED_SIGN_FEED, e2_FEED_SIGN_FEED, e3_FEED_SIGN_FEED⟩
section
variable {K : PySem.W.Frag} {x : Str} {st : Stmt} {f c PP : Addr} {oc oc2 : Value} {od od2 : Option Addr} {dV kV doc pm : Value} {an : Option Addr} {ct : Value} {osl osl2 : Array (Option Value)} {vs : Array Value}
theorem tab_mk (a : PySem.W.nsIn K mainGlobals x = some (some (.ref f))) (l : K.lookup f = some ⟨oc, od, .func (PySem.W.fnOf x x (L2.defArgs st) (L2.defBody st) (L2.defScope st) dV kV doc pm an (.ref c) ct), osl⟩) (l2 : K.lookup c = some ⟨oc2, od2, .fields vs, osl2⟩) (v : (vs[11]? : Option Value) = some (.ref PP)) : PySem.W.tabIn K x = some (c, PP) := by
  unfold PySem.W.tabIn
  rw [a]
  simp only [l]
  show (match K.lookup c with | some ⟨_, _, .fields vs, _⟩ => _ | _ => none) = _
  rw [l2]
  simp only [v]
theorem tabs_mk {q : Program} {x1 x2 x3 : Str} {c1 P1 c2 P2 c3 P3 : Addr} (f1 : ((recsOf q).find? fun e => e.name == x1).isSome = true) (t1 : PySem.W.tabIn K x1 = some (c1, P1)) (n1 : K.lookup P1 = none) (f2 : ((recsOf q).find? fun e => e.name == x2).isSome = true) (t2 : PySem.W.tabIn K x2 = some (c2, P2)) (n2 : K.lookup P2 = none)
    (f3 : ((recsOf q).find? fun e => e.name == x3).isSome = true) (t3 : PySem.W.tabIn K x3 = some (c3, P3)) (n3 : K.lookup P3 = none) : TabsOf q K [(x1, c1, P1), (x2, c2, P2), (x3, c3, P3)] := by
  intro c hc
  simp at hc
  rcases hc with rfl | rfl | rfl
  · exact ⟨f1, t1, n1⟩
  · exact ⟨f2, t2, n2⟩
  · exact ⟨f3, t3, n3⟩
end
end K02
open PySem PySem.W PyProof.Rows
set_option maxRecDepth 100000 in
set_option maxHeartbeats 0 in
theorem PySem.Challenge.cw_eithermended_k02_types_written_and_read_holds : PySem.Challenge.rw_eithermended_k02_types_written_and_read.Holds := by
  w_on; o_law; k_head; (case hw => w_witness2)
  k_fill
  refine K02.walk (l := PySem.Challenge.rw_eithermended_k02_types_written_and_read) rfl rfl (fun w h Y => PySem.W.km_in_of Y) ?F
  case F =>
    intro w mg fa h KX G hmg
    refine ⟨hmg, ?TX, ?DL, ?DI, ?DR, ?TB, ?EX, ?KN⟩
    (case DL => (refine' DL.dfn_mk ?a ?l ?c ?k; (case a => k_is); (case l => k_is); (case c => k_is); (case k => k_is)))
    (case DI => (refine' DL.dfn_mk ?a ?l ?c ?k; (case a => k_is); (case l => k_is); (case c => k_is); (case k => k_is)))
    (case DR => (refine' DL.dfn_mk ?a ?l ?c ?k; (case a => k_is); (case l => k_is); (case c => k_is); (case k => k_is)))
    (case TX =>
      refine' K02.txt_mk KX G ?z_abs ?z_all ?z_int ?z_isinstance ?z_len ?z_list ?z_max ?z_min ?z_range ?z_repr ?z_set ?z_sorted ?z_str ?z_sum ?z_tuple ?z_zip ?a_AGAIN ?a_BAR ?a_BLANK ?a_CAT ?a_FEED ?a_LEAVES ?l_LEAVES ?v_LEAVESx ?a_MOST_DEEP ?a_MOST_LEAF ?a_MOST_NODES ?a_OR ?a_PAIR ?a_PAIRS ?l_PAIRS ?v_PAIRSx ?a_QUOTE ?a_SIGN ?a_SIGNS ?a_STAR ?a_TEXT ?a_TRIPLE ?a_WORDS ?l_WORDS ?v_WORDSx ?a_FEED_SIGN ?d_is_tuple ?d_is_word ?d_is_text ?d_is_leaf ?d_is_node ?d_parts_of ?d_is_type ?d_check_type ?d_signs_shown ?d_shown ?d_type_text ?d_read_type ?d__law_pot ?d__law_take ?d__law_of ?d__law_cells ?d__law_some ?d__law_heard ?d__law_signs ?d__law_few ?d__law_leaf ?d__law_type_drawn ?d__law_shown ?d__law_is_read ?d__law_otherwise ?d__law_hand ?d__law_right ?aC_TypeText ?pg_TypeText ?hd_TypeText ?po_TypeText ?sa_TypeText ?mk_TypeText ?kc_TypeText ?a_TypeText_init ?i_TypeText_init ?l_TypeText_init ?c_TypeText_init ?k_TypeText_init ?a_TypeText_is_next ?i_TypeText_is_next ?l_TypeText_is_next ?c_TypeText_is_next ?k_TypeText_is_next ?a_TypeText_row_to ?i_TypeText_row_to ?l_TypeText_row_to ?c_TypeText_row_to ?k_TypeText_row_to ?a_TypeText_leaf ?i_TypeText_leaf ?l_TypeText_leaf ?c_TypeText_leaf ?k_TypeText_leaf ?a_TypeText_couple ?i_TypeText_couple ?l_TypeText_couple ?c_TypeText_couple ?k_TypeText_couple ?a_TypeText_node ?i_TypeText_node ?l_TypeText_node ?c_TypeText_node ?k_TypeText_node ?n_TypeText_text ?n_TypeText_at ?n_TypeText_deep ?e1_FEED_FEED_SIGN ?e2_FEED_FEED_SIGN ?e3_FEED_FEED_SIGN ?e1_FEED_SIGN_FEED ?e2_FEED_SIGN_FEED ?e3_FEED_SIGN_FEED
      (case z_abs => k_is)
      (case z_all => k_is)
      (case z_int => k_is)
      (case z_isinstance => k_is)
      (case z_len => k_is)
      (case z_list => k_is)
      (case z_max => k_is)
      (case z_min => k_is)
      (case z_range => k_is)
      (case z_repr => k_is)
      (case z_set => k_is)
      (case z_sorted => k_is)
      (case z_str => k_is)
      (case z_sum => k_is)
      (case z_tuple => k_is)
      (case z_zip => k_is)
      (case a_AGAIN => k_is)
      (case a_BAR => k_is)
      (case a_BLANK => k_is)
      (case a_CAT => k_is)
      (case a_FEED => k_is)
      (case a_LEAVES => k_is)
      (case l_LEAVES => k_is)
      (case v_LEAVESx => exact .cons ⟨_, rfl⟩ (.cons ⟨_, rfl⟩ .nil))
      (case a_MOST_DEEP => k_is)
      (case a_MOST_LEAF => k_is)
      (case a_MOST_NODES => k_is)
      (case a_OR => k_is)
      (case a_PAIR => k_is)
      (case a_PAIRS => k_is)
      (case l_PAIRS => k_is)
      (case v_PAIRSx => exact .cons ⟨_, rfl⟩ (.cons ⟨_, rfl⟩ .nil))
      (case a_QUOTE => k_is)
      (case a_SIGN => k_is)
      (case a_SIGNS => k_is)
      (case a_STAR => k_is)
      (case a_TEXT => k_is)
      (case a_TRIPLE => k_is)
      (case a_WORDS => k_is)
      (case l_WORDS => k_is)
      (case v_WORDSx => exact .cons ⟨_, rfl⟩ (.cons ⟨_, rfl⟩ (.cons ⟨_, rfl⟩ (.cons ⟨_, rfl⟩ (.cons ⟨_, rfl⟩ .nil)))))
      (case a_FEED_SIGN => k_is)
      (case d_is_tuple => (refine' DL.dfn_mk ?a ?l ?c ?k; (case a => k_is); (case l => k_is); (case c => k_is); (case k => k_is)))
      (case d_is_word => (refine' DL.dfn_mk ?a ?l ?c ?k; (case a => k_is); (case l => k_is); (case c => k_is); (case k => k_is)))
      (case d_is_text => (refine' DL.dfnT_mk ?a ?l ?c ?k ?t; (case a => k_is); (case l => k_is); (case c => k_is); (case k => k_is); (case t => k_is)))
      (case d_is_leaf => (refine' DL.dfn_mk ?a ?l ?c ?k; (case a => k_is); (case l => k_is); (case c => k_is); (case k => k_is)))
      (case d_is_node => (refine' DL.dfn_mk ?a ?l ?c ?k; (case a => k_is); (case l => k_is); (case c => k_is); (case k => k_is)))
      (case d_parts_of => (refine' DL.dfn_mk ?a ?l ?c ?k; (case a => k_is); (case l => k_is); (case c => k_is); (case k => k_is)))
      (case d_is_type => (refine' DL.dfn_mk ?a ?l ?c ?k; (case a => k_is); (case l => k_is); (case c => k_is); (case k => k_is)))
      (case d_check_type => (refine' DL.dfn_mk ?a ?l ?c ?k; (case a => k_is); (case l => k_is); (case c => k_is); (case k => k_is)))
      (case d_signs_shown => (refine' DL.dfn_mk ?a ?l ?c ?k; (case a => k_is); (case l => k_is); (case c => k_is); (case k => k_is)))
      (case d_shown => (refine' DL.dfn_mk ?a ?l ?c ?k; (case a => k_is); (case l => k_is); (case c => k_is); (case k => k_is)))
      (case d_type_text => (refine' DL.dfn_mk ?a ?l ?c ?k; (case a => k_is); (case l => k_is); (case c => k_is); (case k => k_is)))
      (case d_read_type => (refine' DL.dfn_mk ?a ?l ?c ?k; (case a => k_is); (case l => k_is); (case c => k_is); (case k => k_is)))
      (case d__law_pot => (refine' DL.dfn_mk ?a ?l ?c ?k; (case a => k_is); (case l => k_is); (case c => k_is); (case k => k_is)))
      (case d__law_take => (refine' DL.dfn_mk ?a ?l ?c ?k; (case a => k_is); (case l => k_is); (case c => k_is); (case k => k_is)))
      (case d__law_of => (refine' DL.dfn_mk ?a ?l ?c ?k; (case a => k_is); (case l => k_is); (case c => k_is); (case k => k_is)))
      (case d__law_cells => (refine' DL.dfn_mk ?a ?l ?c ?k; (case a => k_is); (case l => k_is); (case c => k_is); (case k => k_is)))
      (case d__law_some => (refine' DL.dfn_mk ?a ?l ?c ?k; (case a => k_is); (case l => k_is); (case c => k_is); (case k => k_is)))
      (case d__law_heard => (refine' DL.dfn_mk ?a ?l ?c ?k; (case a => k_is); (case l => k_is); (case c => k_is); (case k => k_is)))
      (case d__law_signs => (refine' DL.dfn_mk ?a ?l ?c ?k; (case a => k_is); (case l => k_is); (case c => k_is); (case k => k_is)))
      (case d__law_few => (refine' DL.dfn_mk ?a ?l ?c ?k; (case a => k_is); (case l => k_is); (case c => k_is); (case k => k_is)))
      (case d__law_leaf => (refine' DL.dfn_mk ?a ?l ?c ?k; (case a => k_is); (case l => k_is); (case c => k_is); (case k => k_is)))
      (case d__law_type_drawn => (refine' DL.dfn_mk ?a ?l ?c ?k; (case a => k_is); (case l => k_is); (case c => k_is); (case k => k_is)))
      (case d__law_shown => (refine' DL.dfn_mk ?a ?l ?c ?k; (case a => k_is); (case l => k_is); (case c => k_is); (case k => k_is)))
      (case d__law_is_read => (refine' DL.dfn_mk ?a ?l ?c ?k; (case a => k_is); (case l => k_is); (case c => k_is); (case k => k_is)))
      (case d__law_otherwise => (refine' DL.dfn_mk ?a ?l ?c ?k; (case a => k_is); (case l => k_is); (case c => k_is); (case k => k_is)))
      (case d__law_hand => (refine' DL.dfn_mk ?a ?l ?c ?k; (case a => k_is); (case l => k_is); (case c => k_is); (case k => k_is)))
      (case d__law_right => (refine' DL.dfn_mk ?a ?l ?c ?k; (case a => k_is); (case l => k_is); (case c => k_is); (case k => k_is)))
      (case aC_TypeText => k_is)
      (case pg_TypeText => k_is)
      (case hd_TypeText => k_is)
      (case po_TypeText => k_is)
      (case sa_TypeText => k_is)
      (case mk_TypeText => k_is)
      (case kc_TypeText => k_is)
      (case a_TypeText_init => k_is)
      (case i_TypeText_init => k_is)
      (case l_TypeText_init => k_is)
      (case c_TypeText_init => k_is)
      (case k_TypeText_init => k_is)
      (case a_TypeText_is_next => k_is)
      (case i_TypeText_is_next => k_is)
      (case l_TypeText_is_next => k_is)
      (case c_TypeText_is_next => k_is)
      (case k_TypeText_is_next => k_is)
      (case a_TypeText_row_to => k_is)
      (case i_TypeText_row_to => k_is)
      (case l_TypeText_row_to => k_is)
      (case c_TypeText_row_to => k_is)
      (case k_TypeText_row_to => k_is)
      (case a_TypeText_leaf => k_is)
      (case i_TypeText_leaf => k_is)
      (case l_TypeText_leaf => k_is)
      (case c_TypeText_leaf => k_is)
      (case k_TypeText_leaf => k_is)
      (case a_TypeText_couple => k_is)
      (case i_TypeText_couple => k_is)
      (case l_TypeText_couple => k_is)
      (case c_TypeText_couple => k_is)
      (case k_TypeText_couple => k_is)
      (case a_TypeText_node => k_is)
      (case i_TypeText_node => k_is)
      (case l_TypeText_node => k_is)
      (case c_TypeText_node => k_is)
      (case k_TypeText_node => k_is)
      (case n_TypeText_text => k_is)
      (case n_TypeText_at => k_is)
      (case n_TypeText_deep => k_is)
      (case e1_FEED_FEED_SIGN => decide)
      (case e2_FEED_FEED_SIGN => decide)
      (case e3_FEED_FEED_SIGN => decide)
      (case e1_FEED_SIGN_FEED => decide)
      (case e2_FEED_SIGN_FEED => decide)
      (case e3_FEED_SIGN_FEED => decide))
    (case TB =>
      refine' ⟨_, _, _, _, _, _, K02.tabs_mk ?f1 (K02.tab_mk (st := K02.st__law_is_read) ?a1 ?l1 ?m1 ?v1) ?n1 ?f2 (K02.tab_mk (st := K02.st__law_right) ?a2 ?l2 ?m2 ?v2) ?n2 ?f3 (K02.tab_mk (st := K02.st_law) ?a3 ?l3 ?m3 ?v3) ?n3, ?ne⟩
      (case a1 => k_is)
      (case l1 => k_is)
      (case m1 => k_is)
      (case v1 => rfl)
      (case a2 => k_is)
      (case l2 => k_is)
      (case m2 => k_is)
      (case v2 => rfl)
      (case a3 => k_is)
      (case l3 => k_is)
      (case m3 => k_is)
      (case v3 => rfl)
      (case f1 => rfl)
      (case f2 => rfl)
      (case f3 => rfl)
      (case n1 => kernel_rfl)
      (case n2 => kernel_rfl)
      (case n3 => kernel_rfl)
      (case ne => decide))
    (case EX =>
      intro P0 w0 base0
      refine' ⟨K02.exc_of KX G ?c1 ?mv ?vV, K02.exc_of KX G ?c2 ?mv2 ?vV2⟩
      (case c1 => (refine' K02.cls_mk ?a ?l ?r ?sa ?ex ?ty ?kC ?i1 ?i2 ?lI ?cI ?kI ?nv ?ga ?gg ?hd ?ha ?hn ?ht ?hm; (case a => k_is); (case l => k_is); (case r => rfl); (case sa => k_is); (case ex => k_is); (case ty => k_is); (case kC => k_is); (case i1 => k_is); (case i2 => k_is); (case lI => k_is); (case cI => k_is); (case kI => k_is); (case nv => k_is); (case ga => k_is); (case gg => k_is); (case hd => k_is); (case ha => k_is); (case hn => k_is); (case ht => k_is); (case hm => k_is)))
      (case c2 => (refine' K02.cls_mk ?a ?l ?r ?sa ?ex ?ty ?kC ?i1 ?i2 ?lI ?cI ?kI ?nv ?ga ?gg ?hd ?ha ?hn ?ht ?hm; (case a => k_is); (case l => k_is); (case r => rfl); (case sa => k_is); (case ex => k_is); (case ty => k_is); (case kC => k_is); (case i1 => k_is); (case i2 => k_is); (case lI => k_is); (case cI => k_is); (case kI => k_is); (case nv => k_is); (case ga => k_is); (case gg => k_is); (case hd => k_is); (case ha => k_is); (case hn => k_is); (case ht => k_is); (case hm => k_is)))
      (case mv => k_is)
      (case mv2 => k_is)
      (case vV => k_is)
      (case vV2 => k_is))
    (case KN =>
      refine' ⟨_, _, _, K02.kns_of KX G ?aS ?cT ?cE (PySem.W.exm_ref ?s1 ?s2 ?s3 ?s4) (PySem.W.exm_ref ?r1 ?r2 ?r3 ?r4) ?k1 ?k2 ?k3 ?k4⟩
      (case aS => k_is)
      (case cT => (refine' K02.cls_mk ?a ?l ?r ?sa ?ex ?ty ?kC ?i1 ?i2 ?lI ?cI ?kI ?nv ?ga ?gg ?hd ?ha ?hn ?ht ?hm; (case a => k_is); (case l => k_is); (case r => rfl); (case sa => k_is); (case ex => k_is); (case ty => k_is); (case kC => k_is); (case i1 => k_is); (case i2 => k_is); (case lI => k_is); (case cI => k_is); (case kI => k_is); (case nv => k_is); (case ga => k_is); (case gg => k_is); (case hd => k_is); (case ha => k_is); (case hn => k_is); (case ht => k_is); (case hm => k_is)))
      (case cE => (refine' K02.cls_mk ?a ?l ?r ?sa ?ex ?ty ?kC ?i1 ?i2 ?lI ?cI ?kI ?nv ?ga ?gg ?hd ?ha ?hn ?ht ?hm; (case a => k_is); (case l => k_is); (case r => rfl); (case sa => k_is); (case ex => k_is); (case ty => k_is); (case kC => k_is); (case i1 => k_is); (case i2 => k_is); (case lI => k_is); (case cI => k_is); (case kI => k_is); (case nv => k_is); (case ga => k_is); (case gg => k_is); (case hd => k_is); (case ha => k_is); (case hn => k_is); (case ht => k_is); (case hm => k_is)))
      (case s1 => k_is)
      (case s2 => k_is)
      (case s3 => k_is)
      (case s4 => k_is)
      (case r1 => k_is)
      (case r2 => k_is)
      (case r3 => k_is)
      (case r4 => k_is)
      (case k1 => kit_is)
      (case k2 => kit_is)
      (case k3 => kit_is)
      (case k4 => kit_is))

