import PyProof.Rows.All
import Wide.All
import OpenK.AllK
import Wide.FinOn
import HandS.ForMost
import HandS.Walk
import HandS.Lambda
import HandS.ExcOwn
import HandS.Wide
import HandS.TupAny
import HandS.IsInst
import HandS.Conv
import HandS.WideBits
import KE.GoesEnum
import KE.GoesMore
import HandS.Style
import PyProof.ListStr
import HandS.SetFor
import HandS.Sort
import PyProof.StrWalks
import HandS.Defaults
import HandS.ExcInit
import HandS.WordsExc
import PySem.Challenge.RW_eithermended_k27_programs_by_their_form
import HandS.ExcIs
import HandS.ExcField
import KE.KExcIs
import HandS.EndBits
import KE.KNest
import HandS.Flt
import PyProof.EnumMake
import HandS.TupMul
import HandS.Replace
import HandS.ReplaceList
import HandS.Strs
import HandS.SortInts
import HandS.More
import HandS.DictComp
import HandS.Small
import PyProof.DictUpdate
import HandS.Iter
import HandS.Codes
import KE.Datum
set_option Elab.async false
set_option linter.all false
set_option maxRecDepth 100000
/-! DL1: plain data over the hand layer: values by content, what may change by address; the judgements lifted to it. -/
namespace DL
open PySem PySem.Spec L2
open PyProof.Rows hiding St

/-- plain data; ref: an object told by its address -/
inductive D where
  | non | bl (b : Bool) | int (i : Int) | str (x : Str) | tup (xs : List D) | lst (xs : List D) | slst (xs : List D) | ref (a : Addr) | dct (ks : List (Int ⊕ Str)) (xs : List D) | exc (x : Str) (v : D)

/-- at a: an exception of the class at C that was caught, its dict at dx -/
def ExK (C dx a : Addr) : HO := .ext fun h => ∃ (oe : Obj) (vs : Array Value), h.get? a = some oe ∧ Zc (.ref C) (some dx) oe ∧ oe.data = .fields vs
mutual
inductive Rp (K : PySem.W.Frag) (F : Hp) : V → D → Prop
  | non : Rp K F .non .non
  | bl (b : Bool) : Rp K F (.bl b) (.bl b)
  | int (i : Int) : Rp K F (.int i) (.int i)
  | str (x : Str) : Rp K F (.str x) (.str x)
  | ref (a : Addr) : Rp K F (.ref a) (.ref a)
  | tup {a : Addr} {xs : List V} {ds : List D} : SqT K F a xs → RpAll K F xs ds → Rp K F (.ref a) (.tup ds)
  | lst {a : Addr} {xs : List V} {ds : List D} : F a = some (.lst xs) → RpAll K F xs ds → Rp K F (.ref a) (.lst ds)
  | slst {a : Addr} {xs : List V} {ds : List D} : SqL K F a xs → RpAll K F xs ds → Rp K F (.ref a) (.slst ds)
  | dct {a : Addr} {ks : List (Int ⊕ Str)} {xs : List V} {ds : List D} : F a = some (.dK (ks.zip xs)) → ks.length = xs.length → RpAll K F xs ds → Rp K F (.ref a) (.dct ks ds)
  | exc {a C dx : Addr} {u : V} {x : Str} {v : D} : PySem.W.nsIn K mainGlobals x = some (some (.ref C)) → F a = some (ExK C dx a) → F dx = some (.xd [("value", u)]) → Rp K F u v → Rp K F (.ref a) (.exc x v)
inductive RpAll (K : PySem.W.Frag) (F : Hp) : List V → List D → Prop
  | nil : RpAll K F [] []
  | cons {v : V} {vs : List V} {d : D} {ds : List D} : Rp K F v d → RpAll K F vs ds → RpAll K F (v :: vs) (d :: ds)
end

theorem Same.tseq {K : PySem.W.Frag} {H H' : Hp} {a : Addr} {xs : List V} (e : Same H H') (h : SqT K H a xs) : SqT K H' a xs := by
  rcases h with (h | ⟨o, h⟩) | h
  · exact .inl (.inl (e _ _ h))
  · exact .inl (.inr ⟨o, e _ _ h⟩)
  · exact .inr h
mutual
theorem Rp.mono {K : PySem.W.Frag} {F F' : Hp} (e : Same F F') : ∀ {v : V} {d : D}, Rp K F v d → Rp K F' v d
  | _, _, .non => .non
  | _, _, .bl b => .bl b
  | _, _, .int i => .int i
  | _, _, .str x => .str x
  | _, _, .ref a => .ref a
  | _, _, .tup s r => .tup (Same.tseq e s) (RpAll.mono e r)
  | _, _, .lst s r => .lst (e _ _ s) (RpAll.mono e r)
  | _, _, .slst s r => .slst (e.seq s) (RpAll.mono e r)
  | _, _, .dct h l r => .dct (e _ _ h) l (RpAll.mono e r)
  | _, _, .exc n h1 h2 r => .exc n (e _ _ h1) (e _ _ h2) (Rp.mono e r)
theorem RpAll.mono {K : PySem.W.Frag} {F F' : Hp} (e : Same F F') : ∀ {vs : List V} {ds : List D}, RpAll K F vs ds → RpAll K F' vs ds
  | _, _, .nil => .nil
  | _, _, .cons h t => .cons (Rp.mono e h) (RpAll.mono e t)
end
theorem RpAll.length {K : PySem.W.Frag} {F : Hp} : ∀ {vs : List V} {ds : List D}, RpAll K F vs ds → vs.length = ds.length
  | _, _, .nil => rfl
  | _, _, .cons _ t => congrArg (· + 1) (RpAll.length t)
theorem RpAll.get {K : PySem.W.Frag} {F : Hp} : ∀ {vs : List V} {ds : List D} {i : Nat} {d : D}, RpAll K F vs ds → ds[i]? = some d → ∃ v, vs[i]? = some v ∧ Rp K F v d
  | _, _, _, _, .nil, e => by simp at e
  | _, _, 0, _, .cons h _, e => by simp at e; subst e; exact ⟨_, rfl, h⟩
  | _, _, i + 1, _, .cons _ t, e => by
    obtain ⟨v, h1, h2⟩ := RpAll.get (i := i) t (by simpa using e)
    exact ⟨v, by simpa using h1, h2⟩
theorem RpAll.get' {K : PySem.W.Frag} {F : Hp} : ∀ {vs : List V} {ds : List D} {i : Nat} {v : V}, RpAll K F vs ds → vs[i]? = some v → ∃ d, ds[i]? = some d ∧ Rp K F v d
  | _, _, _, _, .nil, e => by simp at e
  | _, _, 0, _, .cons h _, e => by simp at e; subst e; exact ⟨_, rfl, h⟩
  | _, _, i + 1, _, .cons _ t, e => by
    obtain ⟨v, h1, h2⟩ := RpAll.get' (i := i) t (by simpa using e)
    exact ⟨v, by simpa using h1, h2⟩
theorem RpAll.append {K : PySem.W.Frag} {F : Hp} : ∀ {vs ws : List V} {ds es : List D}, RpAll K F vs ds → RpAll K F ws es → RpAll K F (vs ++ ws) (ds ++ es)
  | _, _, _, _, .nil, s => s
  | _, _, _, _, .cons h t, s => .cons h (RpAll.append t s)
theorem RpAll.take {K : PySem.W.Frag} {F : Hp} : ∀ {vs : List V} {ds : List D} (n : Nat), RpAll K F vs ds → RpAll K F (vs.take n) (ds.take n)
  | _, _, 0, _ => by simpa using RpAll.nil
  | _, _, _ + 1, .nil => .nil
  | _, _, n + 1, .cons h t => .cons h (RpAll.take n t)
theorem RpAll.drop {K : PySem.W.Frag} {F : Hp} : ∀ {vs : List V} {ds : List D} (n : Nat), RpAll K F vs ds → RpAll K F (vs.drop n) (ds.drop n)
  | _, _, 0, r => by simpa using r
  | _, _, _ + 1, .nil => .nil
  | _, _, n + 1, .cons _ t => RpAll.drop n t
theorem RpAll.set {K : PySem.W.Frag} {F : Hp} {v : V} {d : D} (h : Rp K F v d) : ∀ {vs : List V} {ds : List D} (n : Nat), RpAll K F vs ds → RpAll K F (vs.set n v) (ds.set n d)
  | _, _, _, .nil => .nil
  | _, _, 0, .cons _ t => .cons h t
  | _, _, n + 1, .cons x t => .cons x (RpAll.set h n t)
theorem RpAll.dropLast {K : PySem.W.Frag} {F : Hp} {vs : List V} {ds : List D} (h : RpAll K F vs ds) : RpAll K F vs.dropLast ds.dropLast := by
  rw [List.dropLast_eq_take, List.dropLast_eq_take, h.length]
  exact h.take _
theorem RpAll.eraseIdx {K : PySem.W.Frag} {F : Hp} : ∀ {vs : List V} {ds : List D} (n : Nat), RpAll K F vs ds → RpAll K F (vs.eraseIdx n) (ds.eraseIdx n)
  | _, _, _, .nil => .nil
  | _, _, 0, .cons _ t => t
  | _, _, n + 1, .cons x t => .cons x (RpAll.eraseIdx n t)
theorem RpAll.reverse {K : PySem.W.Frag} {F : Hp} : ∀ {vs : List V} {ds : List D}, RpAll K F vs ds → RpAll K F vs.reverse ds.reverse
  | _, _, .nil => .nil
  | _, _, .cons h t => by
    rw [List.reverse_cons, List.reverse_cons]
    exact (RpAll.reverse t).append (.cons h .nil)
theorem RpAll.rep {K : PySem.W.Frag} {F : Hp} {vs : List V} {ds : List D} (h : RpAll K F vs ds) : ∀ k : Nat, RpAll K F (List.replicate k vs).flatten (List.replicate k ds).flatten
  | 0 => .nil
  | k + 1 => by
    rw [List.replicate_succ, List.replicate_succ, List.flatten_cons, List.flatten_cons]
    exact h.append (RpAll.rep h k)

/-! ### the fields of an object -/
inductive RpFs (K : PySem.W.Frag) (F : Hp) : List (Str × V) → List (Str × D) → Prop
  | nil : RpFs K F [] []
  | cons {x : Str} {v : V} {d : D} {vs : List (Str × V)} {ds : List (Str × D)} : Rp K F v d → RpFs K F vs ds → RpFs K F ((x, v) :: vs) ((x, d) :: ds)
theorem RpFs.mono {K : PySem.W.Frag} {F F' : Hp} (e : Same F F') : ∀ {vs : List (Str × V)} {ds : List (Str × D)}, RpFs K F vs ds → RpFs K F' vs ds
  | _, _, .nil => .nil
  | _, _, .cons h t => .cons (h.mono e) (RpFs.mono e t)
theorem RpFs.length {K : PySem.W.Frag} {F : Hp} : ∀ {vs : List (Str × V)} {ds : List (Str × D)}, RpFs K F vs ds → vs.length = ds.length
  | _, _, .nil => rfl
  | _, _, .cons _ t => congrArg (· + 1) (RpFs.length t)
theorem RpFs.look {K : PySem.W.Frag} {F : Hp} {f : Str} {d : D} : ∀ {vs : List (Str × V)} {ds : List (Str × D)}, RpFs K F vs ds → ds.lookup f = some d → ∃ v, vs.lookup f = some v ∧ Rp K F v d
  | _, _, .nil, e => by simp at e
  | (x, v) :: _, (_, d0) :: _, .cons h t, e => by
    by_cases q : f = x
    · have hb : (f == x) = true := beq_iff_eq.mpr q
      simp only [List.lookup, hb] at e ⊢
      cases e; exact ⟨v, rfl, h⟩
    · have hb : (f == x) = false := beq_eq_false_iff_ne.mpr q
      simp only [List.lookup, hb] at e ⊢
      exact RpFs.look t e
theorem RpFs.look0 {K : PySem.W.Frag} {F : Hp} {f : Str} : ∀ {vs : List (Str × V)} {ds : List (Str × D)}, RpFs K F vs ds → ds.lookup f = none → vs.lookup f = none
  | _, _, .nil, _ => rfl
  | (x, v) :: _, (_, d0) :: _, .cons h t, e => by
    by_cases q : f = x
    · have hb : (f == x) = true := beq_iff_eq.mpr q
      simp only [List.lookup, hb] at e
      cases e
    · have hb : (f == x) = false := beq_eq_false_iff_ne.mpr q
      simp only [List.lookup, hb] at e ⊢
      exact RpFs.look0 t e
/-! ### the entries of a dict -/
inductive RpKs (K : PySem.W.Frag) (F : Hp) : List ((Int ⊕ Str) × V) → List ((Int ⊕ Str) × D) → Prop
  | nil : RpKs K F [] []
  | cons {x : Int ⊕ Str} {v : V} {d : D} {vs : List ((Int ⊕ Str) × V)} {ds : List ((Int ⊕ Str) × D)} : Rp K F v d → RpKs K F vs ds → RpKs K F ((x, v) :: vs) ((x, d) :: ds)
theorem RpKs.mono {K : PySem.W.Frag} {F F' : Hp} (e : Same F F') : ∀ {vs : List ((Int ⊕ Str) × V)} {ds : List ((Int ⊕ Str) × D)}, RpKs K F vs ds → RpKs K F' vs ds
  | _, _, .nil => .nil
  | _, _, .cons h t => .cons (h.mono e) (RpKs.mono e t)
theorem RpKs.length {K : PySem.W.Frag} {F : Hp} : ∀ {vs : List ((Int ⊕ Str) × V)} {ds : List ((Int ⊕ Str) × D)}, RpKs K F vs ds → vs.length = ds.length
  | _, _, .nil => rfl
  | _, _, .cons _ t => congrArg (· + 1) (RpKs.length t)
theorem RpKs.keys {K : PySem.W.Frag} {F : Hp} : ∀ {vs : List ((Int ⊕ Str) × V)} {ds : List ((Int ⊕ Str) × D)}, RpKs K F vs ds → vs.map (·.1) = ds.map (·.1)
  | _, _, .nil => rfl
  | _, _, .cons _ t => by rw [List.map_cons, List.map_cons, RpKs.keys t]
def putD (f : Str) (v : D) : List (Str × D) → List (Str × D)
  | [] => [(f, v)]
  | (g, x) :: r => if g = f then (g, v) :: r else (g, x) :: putD f v r
theorem RpFs.put {K : PySem.W.Frag} {F : Hp} {f : Str} {v : V} {d : D} (r : Rp K F v d) : ∀ {vs : List (Str × V)} {ds : List (Str × D)}, RpFs K F vs ds → RpFs K F (putF f v vs) (putD f d ds)
  | _, _, .nil => .cons r .nil
  | (x, _) :: _, (_, _) :: _, .cons h t => by
    show RpFs K F (if x = f then _ else _) (if x = f then _ else _)
    by_cases q : x = f
    · rw [if_pos q, if_pos q]; exact .cons r t
    · rw [if_neg q, if_neg q]; exact .cons h (RpFs.put r t)

/-! ### what may change -/
inductive MO where
  | lst (ds : List D)
  | obj (x : Str) (fs : List (Str × D))
  | dic (kvs : List ((Int ⊕ Str) × D))
abbrev Mp := Addr → Option MO
def mu (M : Mp) (a : Addr) (o : MO) : Mp := fun b => if b = a then some o else M b
theorem mu_same {M : Mp} {a : Addr} {o : MO} : mu M a o a = some o := by unfold mu; rw [if_pos rfl]
theorem mu_ne {M : Mp} {a b : Addr} {o : MO} (h : b ≠ a) : mu M a o b = M b := by unfold mu; rw [if_neg h]
theorem mu_mu {M : Mp} {a : Addr} {o u : MO} : mu (mu M a o) a u = mu M a u := by
  funext b; unfold mu; split <;> rfl
def md (M : Mp) (a : Addr) : Mp := fun b => if b = a then none else M b
theorem md_mu {M : Mp} {a : Addr} {o : MO} (h : M a = none) : md (mu M a o) a = M := by
  funext b; unfold md mu
  by_cases e : b = a
  · rw [if_pos e, e, h]
  · rw [if_neg e, if_neg e]

def RepO (K : PySem.W.Frag) (F : Hp) : HO → MO → Prop
  | .lst xs, .lst ds => RpAll K F xs ds
  | .ins C _ fs, .obj x ds => PySem.W.nsIn K mainGlobals x = some (some (.ref C)) ∧ RpFs K F fs ds
  | .dK vs, .dic ds => RpKs K F vs ds
  | _, _ => False
theorem RepO.mono {K : PySem.W.Frag} {F F' : Hp} (e : Same F F') {o : HO} {m : MO} (h : RepO K F o m) : RepO K F' o m := by
  cases o <;> cases m <;> simp only [RepO] at h ⊢
  · exact h.mono e
  · exact h.mono e
  · exact ⟨h.1, h.2.mono e⟩
abbrev TT8 := List (Addr × Str)
/-- what is tracked, what may change; no table of code objects is held fast -/
structure RelR (K : PySem.W.Frag) (F : Hp) (M : Mp) (H : Hp) : Prop where
  sub : Same F H
  mt : ∀ a m, M a = some m → F a = none ∧ ∃ o, H a = some o ∧ RepO K F o m
  nt : ∀ a ps, F a ≠ some (.tbl ps)

/-- a step of the state: what is held fast stays, what isn't told stays untouched and untold, the tables are kept in order -/
structure StpR (K : PySem.W.Frag) (T : TT8) (F : Hp) (M : Mp) (H : Hp) (F' : Hp) (M' : Mp) (H' : Hp) : Prop where
  same : Same F F'
  rel : RelR K F' M' H'
  fr : ∀ a o, H a = some o → F a = none → M a = none → (∀ ps, o ≠ .tbl ps) → H' a = some o ∧ F' a = none ∧ M' a = none
  tab : LamX.Tabs T H → LamX.Tabs T H'
theorem StpR.refl {K : PySem.W.Frag} {T : TT8} {F : Hp} {M : Mp} {H : Hp} (R : RelR K F M H) : StpR K T F M H F M H := ⟨Same.refl F, R, fun _ _ h f m _ => ⟨h, f, m⟩, id⟩
theorem StpR.trans {K : PySem.W.Frag} {T : TT8} {F F1 F2 : Hp} {M M1 M2 : Mp} {H H1 H2 : Hp} (a : StpR K T F M H F1 M1 H1) (b : StpR K T F1 M1 H1 F2 M2 H2) : StpR K T F M H F2 M2 H2 :=
  ⟨a.same.trans b.same, b.rel, fun x o h f m n => let ⟨h1, f1, m1⟩ := a.fr x o h f m n; b.fr x o h1 f1 m1 n, fun t => b.tab (a.tab t)⟩
section
variable {K : PySem.W.Frag} {T : TT8} {F : Hp} {M : Mp} {H : Hp}
theorem RelR.fnone (R : RelR K F M H) {p : Addr} (h : H p = none) : F p = none := R.sub.free h
theorem RelR.mnone (R : RelR K F M H) {p : Addr} (h : H p = none) : M p = none := by
  cases q : M p with
  | none => rfl
  | some m =>
    obtain ⟨_, o, e, _⟩ := R.mt p m q
    rw [h] at e; cases e
theorem same_new {F : Hp} {p : Addr} {o : HO} (h : F p = none) : Same F (upd F p o) := fun b u q => by rw [upd_ne (ne_of_none q h)]; exact q
theorem tabs_new {p : Addr} (h : H p = none) (o : HO) (t : LamX.Tabs T H) : LamX.Tabs T (upd H p o) := LamX.Tabs.ext t fun b u e => by rw [upd_ne (ne_of_none e h)]; exact e
theorem code_lst {c : Addr} {q : Str} {xs : List V} : LamX.CodeO c q ≠ .lst xs := fun h => by unfold LamX.CodeO at h; cases h
theorem tabs_lst {p : Addr} {xs ys : List V} (h : H p = some (.lst xs)) (t : LamX.Tabs T H) : LamX.Tabs T (upd H p (.lst ys)) := fun z hz => by
  obtain ⟨ps, h1, h2, h3⟩ := t z hz
  refine ⟨ps, ?_, h2, fun pos cv hc => ?_⟩
  · rw [upd_ne (fun e => by rw [e, h] at h1; cases h1)]; exact h1
  · obtain ⟨c, e1, e2⟩ := h3 pos cv hc
    refine ⟨c, e1, ?_⟩
    rw [upd_ne (fun e => by rw [e, h] at e2; exact code_lst (Option.some.inj e2).symm)]; exact e2
/-- a new object that never changes -/
theorem RelR.newF (R : RelR K F M H) {p : Addr} (h : H p = none) (o : HO) (hn : ∀ ps, o ≠ .tbl ps) : StpR K T F M H (upd F p o) M (upd H p o) := by
  have s : Same F (upd F p o) := same_new (R.fnone h)
  refine ⟨s, ⟨fun b u q => ?_, fun a m q => ?_, fun a ps q => ?_⟩, fun a u q f m _ => ?_, tabs_new h o⟩
  · by_cases e : b = p
    · subst e; rw [upd_same] at q ⊢; exact q
    · rw [upd_ne e] at q ⊢; exact R.sub _ _ q
  · obtain ⟨f, u, e, r⟩ := R.mt a m q
    have ne : a ≠ p := ne_of_none e h
    exact ⟨by rw [upd_ne ne]; exact f, u, by rw [upd_ne ne]; exact e, r.mono s⟩
  · by_cases e : a = p
    · subst e; rw [upd_same] at q; exact hn ps (Option.some.inj q)
    · rw [upd_ne e] at q; exact R.nt a ps q
  · have ne : a ≠ p := ne_of_none q h
    rw [upd_ne ne, upd_ne ne]; exact ⟨q, f, m⟩
/-- a new object that may change -/
theorem RelR.newM (R : RelR K F M H) {p : Addr} (h : H p = none) {o : HO} {m : MO} (r : RepO K F o m) : StpR K T F M H F (mu M p m) (upd H p o) := by
  refine ⟨Same.refl F, ⟨fun b u q => ?_, fun a n q => ?_, R.nt⟩, fun a u q f n _ => ?_, tabs_new h o⟩
  · have e : b ≠ p := ne_of_none (R.sub _ _ q) h
    rw [upd_ne e]; exact R.sub _ _ q
  · by_cases e : a = p
    · subst e
      rw [mu_same] at q; cases q
      exact ⟨R.fnone h, o, upd_same, r⟩
    · rw [mu_ne e] at q
      obtain ⟨f, u, e2, r2⟩ := R.mt a n q
      exact ⟨f, u, by rw [upd_ne e]; exact e2, r2⟩
  · have ne : a ≠ p := ne_of_none q h
    rw [upd_ne ne, mu_ne ne]; exact ⟨q, f, n⟩
/-- a list that may change is changed -/
theorem RelR.set (R : RelR K F M H) {p : Addr} {ds0 ds : List D} (h : M p = some (.lst ds0)) {xs : List V} (r : RpAll K F xs ds) : StpR K T F M H F (mu M p (.lst ds)) (upd H p (.lst xs)) := by
  obtain ⟨f0, o0, e0, r0⟩ := R.mt p _ h
  have e1 : ∃ ys, o0 = .lst ys := by
    cases o0 with
    | lst ys => exact ⟨ys, rfl⟩
    | _ => exact r0.elim
  obtain ⟨ys, rfl⟩ := e1
  refine ⟨Same.refl F, ⟨fun b u q => ?_, fun a n q => ?_, R.nt⟩, fun a u q f n _ => ?_, tabs_lst e0⟩
  · have e : b ≠ p := ne_of_none q f0
    rw [upd_ne e]; exact R.sub _ _ q
  · by_cases e : a = p
    · subst e
      rw [mu_same] at q; cases q
      exact ⟨f0, _, upd_same, r⟩
    · rw [mu_ne e] at q
      obtain ⟨f, u, e2, r2⟩ := R.mt a n q
      exact ⟨f, u, by rw [upd_ne e]; exact e2, r2⟩
  · have ne : a ≠ p := fun e => by subst e; rw [h] at n; cases n
    rw [upd_ne ne, mu_ne ne]; exact ⟨q, f, n⟩
theorem code_ins {c : Addr} {q : Str} {C dx : Addr} {fs : List (Str × V)} : LamX.CodeO c q ≠ .ins C dx fs := fun h => by unfold LamX.CodeO at h; cases h
theorem tabs_ins {p C dx : Addr} {fs fs' : List (Str × V)} (h : H p = some (.ins C dx fs)) (t : LamX.Tabs T H) : LamX.Tabs T (upd H p (.ins C dx fs')) := fun z hz => by
  obtain ⟨ps, h1, h2, h3⟩ := t z hz
  refine ⟨ps, ?_, h2, fun pos cv hc => ?_⟩
  · rw [upd_ne (fun e => by rw [e, h] at h1; cases h1)]; exact h1
  · obtain ⟨c, e1, e2⟩ := h3 pos cv hc
    refine ⟨c, e1, ?_⟩
    rw [upd_ne (fun e => by rw [e, h] at e2; exact code_ins (Option.some.inj e2).symm)]; exact e2
theorem tabs_not {p : Addr} {o0 o : HO} (h : H p = some o0) (n1 : ∀ ps, o0 ≠ .tbl ps) (n2 : ∀ c q, LamX.CodeO c q ≠ o0) (t : LamX.Tabs T H) : LamX.Tabs T (upd H p o) := fun z hz => by
  obtain ⟨ps, h1, h2, h3⟩ := t z hz
  refine ⟨ps, ?_, h2, fun pos cv hc => ?_⟩
  · rw [upd_ne (fun e => by rw [e, h] at h1; exact n1 ps (Option.some.inj h1))]; exact h1
  · obtain ⟨c, e1, e2⟩ := h3 pos cv hc
    refine ⟨c, e1, ?_⟩
    rw [upd_ne (fun e => by rw [e, h] at e2; exact n2 _ _ (Option.some.inj e2).symm)]; exact e2
/-- an object that may change is changed -/
theorem RelR.put (R : RelR K F M H) {p : Addr} {m0 m : MO} {o0 o : HO} (h : M p = some m0) (e0 : H p = some o0) (n1 : ∀ ps, o0 ≠ .tbl ps) (n2 : ∀ c q, LamX.CodeO c q ≠ o0) (r : RepO K F o m) : StpR K T F M H F (mu M p m) (upd H p o) := by
  obtain ⟨f0, _, _, _⟩ := R.mt p _ h
  refine ⟨Same.refl F, ⟨fun b u q => ?_, fun a n q => ?_, R.nt⟩, fun a u q f n _ => ?_, tabs_not e0 n1 n2⟩
  · have e : b ≠ p := ne_of_none q f0
    rw [upd_ne e]; exact R.sub _ _ q
  · by_cases e : a = p
    · subst e
      rw [mu_same] at q; cases q
      exact ⟨f0, _, upd_same, r⟩
    · rw [mu_ne e] at q
      obtain ⟨f, u, e2, r2⟩ := R.mt a n q
      exact ⟨f, u, by rw [upd_ne e]; exact e2, r2⟩
  · have ne : a ≠ p := fun e => by subst e; rw [h] at n; cases n
    rw [upd_ne ne, mu_ne ne]; exact ⟨q, f, n⟩
theorem RelR.dic (R : RelR K F M H) {p : Addr} {ds : List ((Int ⊕ Str) × D)} (h : M p = some (.dic ds)) : ∃ vs, H p = some (.dK vs) ∧ RpKs K F vs ds := by
  obtain ⟨_, o, e0, r0⟩ := R.mt p _ h
  cases o with
  | dK vs => exact ⟨vs, e0, r0⟩
  | _ => exact r0.elim
theorem RelR.obj (R : RelR K F M H) {p : Addr} {x : Str} {ds : List (Str × D)} (h : M p = some (.obj x ds)) : ∃ C dx fs, H p = some (.ins C dx fs) ∧ PySem.W.nsIn K mainGlobals x = some (some (.ref C)) ∧ RpFs K F fs ds := by
  obtain ⟨_, o, e0, r0⟩ := R.mt p _ h
  cases o with
  | ins C dx fs => exact ⟨C, dx, fs, e0, r0.1, r0.2⟩
  | _ => exact r0.elim
/-- a field of an object is changed -/
theorem RelR.setO (R : RelR K F M H) {p C dx : Addr} {x : Str} {ds0 ds : List (Str × D)} {fs0 fs : List (Str × V)} (h : M p = some (.obj x ds0)) (e0 : H p = some (.ins C dx fs0)) (n : PySem.W.nsIn K mainGlobals x = some (some (.ref C))) (r : RpFs K F fs ds) :
    StpR K T F M H F (mu M p (.obj x ds)) (upd H p (.ins C dx fs)) := by
  obtain ⟨f0, _, _, _⟩ := R.mt p _ h
  refine ⟨Same.refl F, ⟨fun b u q => ?_, fun a m q => ?_, R.nt⟩, fun a u q f m _ => ?_, tabs_ins e0⟩
  · have e : b ≠ p := ne_of_none q f0
    rw [upd_ne e]; exact R.sub _ _ q
  · by_cases e : a = p
    · subst e
      rw [mu_same] at q; cases q
      exact ⟨f0, _, upd_same, n, r⟩
    · rw [mu_ne e] at q
      obtain ⟨f, u, e2, r2⟩ := R.mt a m q
      exact ⟨f, u, by rw [upd_ne e]; exact e2, r2⟩
  · have ne : a ≠ p := fun e => by subst e; rw [h] at m; cases m
    rw [upd_ne ne, mu_ne ne]; exact ⟨q, f, m⟩
/-- an object that may change is held fast from here on -/
theorem RelR.hold (R : RelR K F M H) {p : Addr} {ds : List D} (h : M p = some (.lst ds)) : ∃ F', StpR K T F M H F' (md M p) H ∧ Rp K F' (.ref p) (.lst ds) := by
  obtain ⟨f0, o, e0, r0⟩ := R.mt p _ h
  cases o with
  | lst xs =>
    have s : Same F (upd F p (.lst xs)) := same_new f0
    refine ⟨upd F p (.lst xs), ⟨s, ⟨fun b u q => ?_, fun a m q => ?_, fun a ps q => ?_⟩, fun a u q f n _ => ?_, id⟩, .lst upd_same (RpAll.mono s r0)⟩
    · by_cases e : b = p
      · subst e; rw [upd_same] at q; rw [e0, ← q]
      · rw [upd_ne e] at q; exact R.sub _ _ q
    · unfold md at q
      by_cases e : a = p
      · rw [if_pos e] at q; cases q
      · rw [if_neg e] at q
        obtain ⟨f, u, e2, r2⟩ := R.mt a m q
        exact ⟨by rw [upd_ne e]; exact f, u, e2, r2.mono s⟩
    · by_cases e : a = p
      · subst e; rw [upd_same] at q; cases q
      · rw [upd_ne e] at q; exact R.nt a ps q
    · have ne : a ≠ p := fun e => by subst e; rw [h] at n; cases n
      unfold md
      rw [upd_ne ne, if_neg ne]; exact ⟨q, f, n⟩
  | _ => exact r0.elim
theorem RelR.lst (R : RelR K F M H) {p : Addr} {ds : List D} (h : M p = some (.lst ds)) : ∃ xs, H p = some (.lst xs) ∧ RpAll K F xs ds := by
  obtain ⟨_, o, e0, r0⟩ := R.mt p _ h
  cases o with
  | lst xs => exact ⟨xs, e0, r0⟩
  | _ => exact r0.elim
end
/-- what is kept in sight beside: the tables, and any J that lasts through steps -/
structure KJ (K : PySem.W.Frag) where
  T : TT8
  J : Hp → Mp → Hp → Prop
  cl : ∀ {F : Hp} {M : Mp} {H F' : Hp} {M' : Mp} {H' : Hp}, J F M H → StpR K T F M H F' M' H' → J F' M' H'
structure Rel {K : PySem.W.Frag} (Y : KJ K) (F : Hp) (M : Mp) (H : Hp) : Prop where
  r : RelR K F M H
  j : Y.J F M H
theorem Rel.sub {K : PySem.W.Frag} {Y : KJ K} {F : Hp} {M : Mp} {H : Hp} (R : Rel Y F M H) : Same F H := R.r.sub
theorem Rel.mt {K : PySem.W.Frag} {Y : KJ K} {F : Hp} {M : Mp} {H : Hp} (R : Rel Y F M H) : ∀ a m, M a = some m → F a = none ∧ ∃ o, H a = some o ∧ RepO K F o m := R.r.mt
structure Stp {K : PySem.W.Frag} (Y : KJ K) (F : Hp) (M : Mp) (H : Hp) (F' : Hp) (M' : Mp) (H' : Hp) : Prop where
  s : StpR K Y.T F M H F' M' H'
  rel : Rel Y F' M' H'
theorem Stp.same {K : PySem.W.Frag} {Y : KJ K} {F F' : Hp} {M M' : Mp} {H H' : Hp} (s : Stp Y F M H F' M' H') : Same F F' := s.s.same
theorem Stp.fr {K : PySem.W.Frag} {Y : KJ K} {F F' : Hp} {M M' : Mp} {H H' : Hp} (s : Stp Y F M H F' M' H') : ∀ a o, H a = some o → F a = none → M a = none → (∀ ps, o ≠ .tbl ps) → H' a = some o ∧ F' a = none ∧ M' a = none := s.s.fr
theorem Stp.of {K : PySem.W.Frag} {Y : KJ K} {F F' : Hp} {M M' : Mp} {H H' : Hp} (R : Rel Y F M H) (s : StpR K Y.T F M H F' M' H') : Stp Y F M H F' M' H' := ⟨s, s.rel, Y.cl R.j s⟩
theorem Stp.refl {K : PySem.W.Frag} {Y : KJ K} {F : Hp} {M : Mp} {H : Hp} (R : Rel Y F M H) : Stp Y F M H F M H := ⟨StpR.refl R.r, R⟩
theorem Stp.trans {K : PySem.W.Frag} {Y : KJ K} {F F1 F2 : Hp} {M M1 M2 : Mp} {H H1 H2 : Hp} (a : Stp Y F M H F1 M1 H1) (b : Stp Y F1 M1 H1 F2 M2 H2) : Stp Y F M H F2 M2 H2 := ⟨a.s.trans b.s, b.rel⟩
section
variable {K : PySem.W.Frag} {Y : KJ K} {F : Hp} {M : Mp} {H : Hp}
theorem Rel.fnone (R : Rel Y F M H) {p : Addr} (h : H p = none) : F p = none := R.r.fnone h
theorem Rel.mnone (R : Rel Y F M H) {p : Addr} (h : H p = none) : M p = none := R.r.mnone h
theorem Rel.newF (R : Rel Y F M H) {p : Addr} (h : H p = none) (o : HO) (hn : ∀ ps, o ≠ .tbl ps := by intro ps z; cases z) : Stp Y F M H (upd F p o) M (upd H p o) := Stp.of R (R.r.newF h o hn)
theorem Rel.newM (R : Rel Y F M H) {p : Addr} (h : H p = none) {o : HO} {m : MO} (r : RepO K F o m) : Stp Y F M H F (mu M p m) (upd H p o) := Stp.of R (R.r.newM h r)
theorem Rel.set (R : Rel Y F M H) {p : Addr} {ds0 ds : List D} (h : M p = some (.lst ds0)) {xs : List V} (r : RpAll K F xs ds) : Stp Y F M H F (mu M p (.lst ds)) (upd H p (.lst xs)) := Stp.of R (R.r.set h r)
theorem Rel.hold (R : Rel Y F M H) {p : Addr} {ds : List D} (h : M p = some (.lst ds)) : ∃ F', Stp Y F M H F' (md M p) H ∧ Rp K F' (.ref p) (.lst ds) := let ⟨F', s, r⟩ := R.r.hold h; ⟨F', Stp.of R s, r⟩
theorem code_dK {c : Addr} {q : Str} {vs : List ((Int ⊕ Str) × V)} : LamX.CodeO c q ≠ .dK vs := fun h => by unfold LamX.CodeO at h; cases h
theorem Rel.dic (R : Rel Y F M H) {p : Addr} {ds : List ((Int ⊕ Str) × D)} (h : M p = some (.dic ds)) : ∃ vs, H p = some (.dK vs) ∧ RpKs K F vs ds := R.r.dic h
theorem Rel.setD (R : Rel Y F M H) {p : Addr} {ds0 ds : List ((Int ⊕ Str) × D)} {vs0 vs : List ((Int ⊕ Str) × V)} (h : M p = some (.dic ds0)) (e0 : H p = some (.dK vs0)) (r : RpKs K F vs ds) : Stp Y F M H F (mu M p (.dic ds)) (upd H p (.dK vs)) :=
  Stp.of R (R.r.put h e0 (fun _ z => nomatch z) (fun _ _ => code_dK) r)
theorem Rel.obj (R : Rel Y F M H) {p : Addr} {x : Str} {ds : List (Str × D)} (h : M p = some (.obj x ds)) : ∃ C dx fs, H p = some (.ins C dx fs) ∧ PySem.W.nsIn K mainGlobals x = some (some (.ref C)) ∧ RpFs K F fs ds := R.r.obj h
theorem Rel.setO (R : Rel Y F M H) {p C dx : Addr} {x : Str} {ds0 ds : List (Str × D)} {fs0 fs : List (Str × V)} (h : M p = some (.obj x ds0)) (e0 : H p = some (.ins C dx fs0)) (n : PySem.W.nsIn K mainGlobals x = some (some (.ref C))) (r : RpFs K F fs ds) :
    Stp Y F M H F (mu M p (.obj x ds)) (upd H p (.ins C dx fs)) := Stp.of R (R.r.setO h e0 n r)
theorem Rel.lst (R : Rel Y F M H) {p : Addr} {ds : List D} (h : M p = some (.lst ds)) : ∃ xs, H p = some (.lst xs) ∧ RpAll K F xs ds := R.r.lst h
end

/-! ### the slots -/
abbrev Rho := List (Option D)
def RelS (K : PySem.W.Frag) (F : Hp) (σ : St) (ρ : Rho) : Prop := σ.length = ρ.length ∧ ∀ (i : Nat) (d : D), ρ[i]? = some (some d) → ∃ v, σ[i]? = some (some v) ∧ Rp K F v d
section
variable {K : PySem.W.Frag} {F F' : Hp} {σ : St} {ρ : Rho}
theorem RelS.mono (h : RelS K F σ ρ) (e : Same F F') : RelS K F' σ ρ := ⟨h.1, fun i d q => let ⟨v, a, b⟩ := h.2 i d q; ⟨v, a, b.mono e⟩⟩
theorem RelS.set (h : RelS K F σ ρ) {v : V} {d : D} (r : Rp K F v d) (i : Nat) : RelS K F (σ.set i (some v)) (ρ.set i (some d)) := by
  refine ⟨by rw [List.length_set, List.length_set]; exact h.1, fun j e q => ?_⟩
  by_cases ij : i = j
  · subst ij
    have hl : i < ρ.length := by
      have := List.getElem?_eq_some_iff.mp q
      obtain ⟨a, _⟩ := this
      simpa using a
    rw [List.getElem?_set_self hl] at q
    cases q
    exact ⟨v, by rw [List.getElem?_set_self (by rw [h.1]; exact hl)], r⟩
  · rw [List.getElem?_set_ne ij] at q ⊢
    exact h.2 j e q
def dwipe (ρ : Rho) : List Nat → Rho
  | [] => ρ
  | v :: vs => (dwipe ρ vs).set v none
theorem RelS.wipe (h : RelS K F σ ρ) : ∀ vs : List Nat, RelS K F (L2.wipe σ vs) (dwipe ρ vs)
  | [] => h
  | v :: vs => by
    have ih := RelS.wipe h vs
    unfold L2.wipe dwipe
    refine ⟨by rw [List.length_set, List.length_set]; exact ih.1, fun j e q => ?_⟩
    by_cases ij : v = j
    · subst ij
      by_cases hl : v < (dwipe ρ vs).length
      · rw [List.getElem?_set_self hl] at q; cases q
      · rw [List.getElem?_eq_none (by simpa using hl)] at q; cases q
    · rw [List.getElem?_set_ne ij] at q ⊢
      exact ih.2 j e q
end

/-! ### the judgements -/
abbrev DK := D → Mp → Prop
abbrev DTE := Rho → Mp → DK → Prop
abbrev DTT := Rho → Mp → (Bool → Mp → Prop) → Prop
abbrev DTA := Rho → Mp → (List D → Mp → Prop) → Prop
structure DEnds where
  nx : Rho → Mp → Prop
  rt : DK
  bk : Rho → Mp → Prop := fun _ _ => False
  ct : Rho → Mp → Prop := fun _ _ => False
abbrev DTS := DEnds → Rho → Mp → Prop

def canE {K : PySem.W.Frag} (Y : KJ K) (t : DTE) : TE := fun σ H Q0 => ∃ F M ρ Q, RelS K F σ ρ ∧ Rel Y F M H ∧ t ρ M Q ∧
  ∀ v d F' M' H', Stp Y F M H F' M' H' → Rp K F' v d → Q d M' → Q0 v H'
def canT {K : PySem.W.Frag} (Y : KJ K) (t : DTT) : TT := fun σ H Q0 => ∃ F M ρ Q, RelS K F σ ρ ∧ Rel Y F M H ∧ t ρ M Q ∧
  ∀ b F' M' H', Stp Y F M H F' M' H' → Q b M' → Q0 b H'
def canA {K : PySem.W.Frag} (Y : KJ K) (t : DTA) : TA := fun σ H Q0 => ∃ F M ρ Q, RelS K F σ ρ ∧ Rel Y F M H ∧ t ρ M Q ∧
  ∀ vs ds F' M' H', Stp Y F M H F' M' H' → RpAll K F' vs ds → Q ds M' → Q0 vs H'
structure EndsOk {K : PySem.W.Frag} (Y : KJ K) (F : Hp) (M : Mp) (H : Hp) (D : DEnds) (D0 : Ends) : Prop where
  nx : ∀ σ' ρ' F' M' H', Stp Y F M H F' M' H' → RelS K F' σ' ρ' → D.nx ρ' M' → D0.nx σ' H'
  rt : ∀ v d F' M' H', Stp Y F M H F' M' H' → Rp K F' v d → D.rt d M' → D0.rt v H'
  bk : ∀ σ' ρ' F' M' H', Stp Y F M H F' M' H' → RelS K F' σ' ρ' → D.bk ρ' M' → D0.bk σ' H'
  ct : ∀ σ' ρ' F' M' H', Stp Y F M H F' M' H' → RelS K F' σ' ρ' → D.ct ρ' M' → D0.ct σ' H'
theorem EndsOk.mono {K : PySem.W.Frag} {Y : KJ K} {F F1 : Hp} {M M1 : Mp} {H H1 : Hp} {D : DEnds} {D0 : Ends} (e : EndsOk Y F M H D D0) (s : Stp Y F M H F1 M1 H1) : EndsOk Y F1 M1 H1 D D0 :=
  ⟨fun a b c d f h => e.nx a b c d f (s.trans h), fun a b c d f h => e.rt a b c d f (s.trans h), fun a b c d f h => e.bk a b c d f (s.trans h), fun a b c d f h => e.ct a b c d f (s.trans h)⟩
def canS {K : PySem.W.Frag} (Y : KJ K) (t : DTS) : TS := fun D0 σ H => ∃ F M ρ D, RelS K F σ ρ ∧ Rel Y F M H ∧ t D ρ M ∧ EndsOk Y F M H D D0

abbrev DE (X : Cx) (Y : KJ X.K) (e : Expr) (t : DTE) : Prop := PE X e (canE Y t)
abbrev DT (X : Cx) (Y : KJ X.K) (e : Expr) (t : DTT) : Prop := PT X e (canT Y t)
abbrev DW (X : Cx) (Y : KJ X.K) (e : Expr) (t : DTT) : Prop := PW X e (canT Y t)
abbrev DA (X : Cx) (Y : KJ X.K) (es : List Expr) (t : DTA) : Prop := PA X es (canA Y t)
abbrev DS (X : Cx) (Y : KJ X.K) (s : Stmt) (t : DTS) : Prop := PS X s (canS Y t)
abbrev DSs (X : Cx) (Y : KJ X.K) (ss : List Stmt) (t : DTS) : Prop := PSs X ss (canS Y t)

section
variable {X : Cx} {Y : KJ X.K}
theorem PE.weak {e : Expr} {t u : TE} (h : PE X e t) (w : ∀ σ H Q, u σ H Q → t σ H Q) : PE X e u := ⟨fun p s σ H Q I q => h.run p s σ H Q I (w σ H Q q)⟩
theorem PT.weak {e : Expr} {t u : TT} (h : PT X e t) (w : ∀ σ H Q, u σ H Q → t σ H Q) : PT X e u := ⟨fun p s σ H Q I q => h.run p s σ H Q I (w σ H Q q)⟩
theorem PW.weak {e : Expr} {t u : TT} (h : PW X e t) (w : ∀ σ H Q, u σ H Q → t σ H Q) : PW X e u := ⟨fun wh p s σ H Q I q => h.run wh p s σ H Q I (w σ H Q q)⟩
theorem PA.weak {es : List Expr} {t u : TA} (h : PA X es t) (w : ∀ σ H Q, u σ H Q → t σ H Q) : PA X es u := ⟨fun ps p s σ H Q I q => h.run ps p s σ H Q I (w σ H Q q)⟩
theorem PS.weak {e : Stmt} {t u : TS} (h : PS X e t) (w : ∀ D σ H, u D σ H → t D σ H) : PS X e u := ⟨fun p s σ H D I q => h.run p s σ H D I (w D σ H q)⟩
theorem PSs.weak {e : List Stmt} {t u : TS} (h : PSs X e t) (w : ∀ D σ H, u D σ H → t D σ H) : PSs X e u := ⟨fun p s σ H D I q => h.run p s σ H D I (w D σ H q)⟩
theorem PTs.weak {ifs : List Expr} {t u : TT} (h : PTs X ifs t) (w : ∀ σ H Q, u σ H Q → t σ H Q) : PTs X ifs u := ⟨fun p s σ H Q I q => h.run p s σ H Q I (w σ H Q q)⟩
end
/-- the introduction of a reading over data -/
theorem canE.mk {K : PySem.W.Frag} {Y : KJ K} {t : DTE} {σ : St} {H : Hp} {Q0 : VK} {F : Hp} {M : Mp} {ρ : Rho} {Q : DK} (s : RelS K F σ ρ) (r : Rel Y F M H) (h : t ρ M Q)
    (k : ∀ v d F' M' H', Stp Y F M H F' M' H' → Rp K F' v d → Q d M' → Q0 v H') : canE Y t σ H Q0 := ⟨F, M, ρ, Q, s, r, h, k⟩

/-! ### names, constants -/
def dSlot (i : Nat) : DTE := fun ρ M Q => ∃ d, ρ[i]? = some (some d) ∧ Q d M
def dC (d : D) : DTE := fun _ M Q => Q d M
section
variable {X : Cx} {Y : KJ X.K} {pos : Pos}
theorem de_v (i : Nat) {x : Str} (hN : X.N[i]? = some x := by rfl) (hv : Vis X.env.scope x := by first | exact Or.inl rfl | exact Or.inr (Or.inl rfl) | exact Or.inr (Or.inr rfl)) (hd : (x == ("__debug__" : Str)) = false := by decide)
    (hcd : (x == ("__classdict__" : Str)) = false := by decide) : DE X Y (.Name x pos) (dSlot i) := by
  refine PE.weak (pe_var hN hv hd hcd) ?_
  rintro σ H Q0 ⟨F, M, ρ, Q, rs, r, ⟨d, e, q⟩, k⟩
  obtain ⟨v, e1, rp⟩ := rs.2 i d e
  exact ⟨v, e1, k v d F M H (Stp.refl r) rp q⟩
theorem de_const {e : Expr} {v : V} {d : D} (h : PE X e (tC v)) (r : ∀ F, Rp X.K F v d) : DE X Y e (dC d) := by
  refine PE.weak h ?_
  rintro σ H Q0 ⟨F, M, ρ, Q, rs, rl, q, k⟩
  exact k v d F M H (Stp.refl rl) (r F) q
theorem de_int {i j} : DE X Y (.Constant (.int i) j pos) (dC (.int i)) := de_const pe_int fun _ => .int i
theorem de_bl {b j} : DE X Y (.Constant (.bool b) j pos) (dC (.bl b)) := de_const pe_bl fun _ => .bl b
theorem de_non {j} : DE X Y (.Constant .none j pos) (dC .non) := de_const pe_non fun _ => .non
theorem de_str {x j} : DE X Y (.Constant (.str x) j pos) (dC (.str x)) := de_const pe_str fun _ => .str x
/-- a name of the module whose value never changes -/
structure Glob (K : PySem.W.Frag) (mg : Str → Option Value) (x : Str) (d : D) : Prop where
  ex : ∃ v u, mg x = some u ∧ RelV v u ∧ ∀ F, Rp K F v d
theorem de_g {x : Str} {d : D} (G : Glob X.K X.mg x d) (hg : Gl X x := by rfl) (hd : (x == ("__debug__" : Str)) = false := by decide) : DE X Y (.Name x pos) (dC d) := by
  obtain ⟨v, u, m, rv, rp⟩ := G.ex
  exact de_const (pe_glob hg m rv hd) rp

/-! ### lists of arguments, displays -/
def dNil : DTA := fun _ M Q => Q [] M
def dCons (t : DTE) (u : DTA) : DTA := fun ρ M Q => t ρ M fun d M1 => u ρ M1 fun ds M2 => Q (d :: ds) M2
theorem da_nil : DA X Y [] dNil := by
  refine PA.weak pa_nil ?_
  rintro σ H Q0 ⟨F, M, ρ, Q, rs, r, q, k⟩
  exact k [] [] F M H (Stp.refl r) .nil q
theorem da_cons {e : Expr} {es : List Expr} {t : DTE} {u : DTA} (ha : DE X Y e t) (hr : DA X Y es u) (hs : starEach (e :: es) X.env = (false, eval e X.env) :: starEach es X.env := by rfl) : DA X Y (e :: es) (dCons t u) := by
  refine PA.weak (pa_cons ha hr hs) ?_
  rintro σ H Q0 ⟨F, M, ρ, Q, rs, r, q, k⟩
  refine ⟨F, M, ρ, _, rs, r, q, fun v d F1 M1 H1 s1 rp q1 => ?_⟩
  refine ⟨F1, M1, ρ, _, rs.mono s1.same, s1.rel, q1, fun vs ds F2 M2 H2 s2 rp2 q2 => ?_⟩
  exact k _ _ F2 M2 H2 (s1.trans s2) (.cons (rp.mono s2.same) rp2) q2
/-- a new list: held fast (fz), or to be changed -/
def newL (fz : Bool) (ds : List D) (M : Mp) (Q : DK) : Prop := if fz = true then Q (.lst ds) M else ∀ a, M a = none → Q (.ref a) (mu M a (.lst ds))
theorem newL_ok {K : PySem.W.Frag} {Y : KJ K} {F : Hp} {M : Mp} {H : Hp} {fz : Bool} {xs : List V} {ds : List D} {Q : DK} {Q0 : VK} (R : Rel Y F M H) (rp : RpAll K F xs ds) (h : newL fz ds M Q)
    (k : ∀ v d F' M' H', Stp Y F M H F' M' H' → Rp K F' v d → Q d M' → Q0 v H') (p : Addr) (hp : H p = none) : Q0 (.ref p) (upd H p (.lst xs)) := by
  cases fz with
  | true =>
    have s1 := R.newF hp (.lst xs)
    exact k _ (.lst ds) _ M _ s1 (.lst upd_same (rp.mono s1.same)) h
  | false =>
    exact k _ (.ref p) F _ _ (R.newM hp (m := .lst ds) rp) (.ref p) (h p (R.mnone hp))
def dTup (t : DTA) : DTE := fun ρ M Q => t ρ M fun ds M1 => ds.length ≤ sizeLine ∧ Q (.tup ds) M1
def dLst (fz : Bool) (t : DTA) : DTE := fun ρ M Q => t ρ M fun ds M1 => ds.length ≤ sizeLine ∧ newL fz ds M1 Q
theorem newT_ok {K : PySem.W.Frag} {Y : KJ K} {F : Hp} {M : Mp} {H : Hp} {xs : List V} {ds : List D} {Q : DK} {Q0 : VK} (R : Rel Y F M H) (rp : RpAll K F xs ds) (h : Q (.tup ds) M)
    (k : ∀ v d F' M' H', Stp Y F M H F' M' H' → Rp K F' v d → Q d M' → Q0 v H') (p : Addr) (hp : H p = none) : Q0 (.ref p) (upd H p (.tup xs)) := by
  have s1 := R.newF hp (.tup xs)
  exact k _ (.tup ds) _ M _ s1 (.tup (.inl (.inl upd_same)) (rp.mono s1.same)) h
theorem de_tup {es : List Expr} {x1} {t : DTA} (h : DA X Y es t) : DE X Y (.Tuple es x1 pos) (dTup t) := by
  refine PE.weak (pe_tup h) ?_
  rintro σ H Q0 ⟨F, M, ρ, Q, rs, r, q, k⟩
  refine ⟨F, M, ρ, _, rs, r, q, fun vs ds F1 M1 H1 s1 rp ⟨hl, q1⟩ => ⟨by rw [rp.length]; exact hl, fun p hp => ?_⟩⟩
  exact newT_ok s1.rel rp q1 (fun v d F' M' H' s => k v d F' M' H' (s1.trans s)) p hp
theorem de_lst (fz : Bool) {es : List Expr} {t : DTA} (h : DA X Y es t) : DE X Y (.List es pos) (dLst fz t) := by
  refine PE.weak (pe_lst h) ?_
  rintro σ H Q0 ⟨F, M, ρ, Q, rs, r, q, k⟩
  refine ⟨F, M, ρ, _, rs, r, q, fun vs ds F1 M1 H1 s1 rp ⟨hl, q1⟩ => ⟨by rw [rp.length]; exact hl, fun p hp => ?_⟩⟩
  exact newL_ok s1.rel rp q1 (fun v d F' M' H' s => k v d F' M' H' (s1.trans s)) p hp
/-- a list that was changed is held fast here -/
def dHold (t : DTE) : DTE := fun ρ M Q => t ρ M fun d M1 => ∃ a ds, d = .ref a ∧ M1 a = some (.lst ds) ∧ Q (.lst ds) (md M1 a)
theorem de_hold {e : Expr} {t : DTE} (h : DE X Y e t) : DE X Y e (dHold t) := by
  refine PE.weak h ?_
  rintro σ H Q0 ⟨F, M, ρ, Q, rs, r, q, k⟩
  refine ⟨F, M, ρ, _, rs, r, q, fun v d F1 M1 H1 s1 rp ⟨a, ds, e, hm, q1⟩ => ?_⟩
  subst e
  cases rp
  obtain ⟨F2, s2, rp2⟩ := s1.rel.hold hm
  exact k _ _ F2 _ H1 (s1.trans s2) rp2 q1
end
end DL

/-! DL2: tests, statements, targets, loops, comprehensions, defs and calls over data. -/
namespace DL
open PySem PySem.Spec L2
open PyProof.Rows hiding St

/-! ### tests -/
def dB (t : DTE) : DTT := fun ρ M Q => t ρ M fun d M1 => ∃ b, d = .bl b ∧ Q b M1
section
variable {X : Cx} {Y : KJ X.K} {pos : Pos}
theorem canT_of_B {K : PySem.W.Frag} {Y : KJ K} {t : DTE} {σ : St} {H : Hp} {Q : Bool → Hp → Prop} (h : canT Y (dB t) σ H Q) : tB (canE Y t) σ H Q := by
  obtain ⟨F, M, ρ, Q', rs, r, q, k⟩ := h
  refine ⟨F, M, ρ, _, rs, r, q, fun v d F1 M1 H1 s1 rp ⟨b, e, q1⟩ => ?_⟩
  subst e
  cases rp
  exact ⟨b, rfl, k b F1 M1 H1 s1 q1⟩
theorem dt_val {e : Expr} {t : DTE} (h : DE X Y e t) (he : ∀ whole, isTrue e X.env whole = (do let v ← whole; standAt e.pos; holding [v] (truthy v)) := by intro _; rfl) : DT X Y e (dB t) :=
  PT.weak (pt_val h he) fun _ _ _ q => canT_of_B q
def dNotT (t : DTT) : DTT := fun ρ M Q => t ρ M fun b M1 => Q (!b) M1
def dAndT (t u : DTT) : DTT := fun ρ M Q => t ρ M fun b M1 => if b = true then u ρ M1 Q else Q false M1
def dOrT (t u : DTT) : DTT := fun ρ M Q => t ρ M fun b M1 => if b = true then Q true M1 else u ρ M1 Q
theorem dt_not {a : Expr} {t : DTT} (h : DT X Y a t) : DT X Y (.UnaryOp .Not a pos) (dNotT t) := by
  refine PT.weak (pt_not h) ?_
  rintro σ H Q0 ⟨F, M, ρ, Q, rs, r, q, k⟩
  exact ⟨F, M, ρ, _, rs, r, q, fun b F1 M1 H1 s1 q1 => k _ F1 M1 H1 s1 q1⟩
theorem can_and {K : PySem.W.Frag} {Y : KJ K} {t u : DTT} {σ : St} {H : Hp} {Q : Bool → Hp → Prop} (h : canT Y (dAndT t u) σ H Q) : tAnd (canT Y t) (canT Y u) σ H Q := by
  obtain ⟨F, M, ρ, Q', rs, r, q, k⟩ := h
  refine ⟨F, M, ρ, _, rs, r, q, fun b F1 M1 H1 s1 q1 => ?_⟩
  cases b with
  | true => exact ⟨F1, M1, ρ, Q', rs.mono s1.same, s1.rel, q1, fun b F2 M2 H2 s2 => k b F2 M2 H2 (s1.trans s2)⟩
  | false => exact k _ F1 M1 H1 s1 q1
theorem can_or {K : PySem.W.Frag} {Y : KJ K} {t u : DTT} {σ : St} {H : Hp} {Q : Bool → Hp → Prop} (h : canT Y (dOrT t u) σ H Q) : tOr (canT Y t) (canT Y u) σ H Q := by
  obtain ⟨F, M, ρ, Q', rs, r, q, k⟩ := h
  refine ⟨F, M, ρ, _, rs, r, q, fun b F1 M1 H1 s1 q1 => ?_⟩
  cases b with
  | false => exact ⟨F1, M1, ρ, Q', rs.mono s1.same, s1.rel, q1, fun b F2 M2 H2 s2 => k b F2 M2 H2 (s1.trans s2)⟩
  | true => exact k _ F1 M1 H1 s1 q1
theorem dw_and1 {a : Expr} {t : DTT} (h : DT X Y a t) : DW X Y (.BoolOp .And [a] pos) t := pw_and1 h
theorem dw_or1 {a : Expr} {t : DTT} (h : DT X Y a t) : DW X Y (.BoolOp .Or [a] pos) t := pw_or1 h
theorem dw_and {a b : Expr} {rest : List Expr} {t u : DTT} (h : DT X Y a t) (h2 : DW X Y (.BoolOp .And (b :: rest) pos) u) : DW X Y (.BoolOp .And (a :: b :: rest) pos) (dAndT t u) :=
  PW.weak (pw_and h h2) fun _ _ _ q => can_and q
theorem dw_or {a b : Expr} {rest : List Expr} {t u : DTT} (h : DT X Y a t) (h2 : DW X Y (.BoolOp .Or (b :: rest) pos) u) : DW X Y (.BoolOp .Or (a :: b :: rest) pos) (dOrT t u) :=
  PW.weak (pw_or h h2) fun _ _ _ q => can_or q
theorem dt_w {e : Expr} {t : DTT} (h : DW X Y e t) : DT X Y e t := h.pt

/-! ### and, or, not as values; x if t else y -/
def dAndV (t u : DTE) : DTE := fun ρ M Q => t ρ M fun d M1 => ∃ b, d = .bl b ∧ if b = true then u ρ M1 Q else Q (.bl false) M1
def dOrV (t u : DTE) : DTE := fun ρ M Q => t ρ M fun d M1 => ∃ b, d = .bl b ∧ if b = true then Q (.bl true) M1 else u ρ M1 Q
def dNotV (t : DTE) : DTE := fun ρ M Q => t ρ M fun d M1 => ∃ b, d = .bl b ∧ Q (.bl (!b)) M1
def dIf (c : DTT) (t u : DTE) : DTE := fun ρ M Q => c ρ M fun b M1 => if b = true then t ρ M1 Q else u ρ M1 Q
theorem de_one {op} {a : Expr} {t : DTE} (h : DE X Y a t) : DE X Y (.BoolOp op [a] pos) t := pe_one h
theorem de_and {a b : Expr} {rest : List Expr} {t u : DTE} (h : DE X Y a t) (h2 : DE X Y (.BoolOp .And (b :: rest) pos) u) : DE X Y (.BoolOp .And (a :: b :: rest) pos) (dAndV t u) := by
  refine PE.weak (pe_and h h2) ?_
  rintro σ H Q0 ⟨F, M, ρ, Q, rs, r, q, k⟩
  refine ⟨F, M, ρ, _, rs, r, q, fun v d F1 M1 H1 s1 rp ⟨b, e, q1⟩ => ?_⟩
  subst e
  cases rp
  refine ⟨b, rfl, ?_⟩
  cases b with
  | true => exact ⟨F1, M1, ρ, Q, rs.mono s1.same, s1.rel, q1, fun v d F2 M2 H2 s2 => k v d F2 M2 H2 (s1.trans s2)⟩
  | false => exact k _ _ F1 M1 H1 s1 (.bl false) q1
theorem de_or {a b : Expr} {rest : List Expr} {t u : DTE} (h : DE X Y a t) (h2 : DE X Y (.BoolOp .Or (b :: rest) pos) u) : DE X Y (.BoolOp .Or (a :: b :: rest) pos) (dOrV t u) := by
  refine PE.weak (pe_or h h2) ?_
  rintro σ H Q0 ⟨F, M, ρ, Q, rs, r, q, k⟩
  refine ⟨F, M, ρ, _, rs, r, q, fun v d F1 M1 H1 s1 rp ⟨b, e, q1⟩ => ?_⟩
  subst e
  cases rp
  refine ⟨b, rfl, ?_⟩
  cases b with
  | false => exact ⟨F1, M1, ρ, Q, rs.mono s1.same, s1.rel, q1, fun v d F2 M2 H2 s2 => k v d F2 M2 H2 (s1.trans s2)⟩
  | true => exact k _ _ F1 M1 H1 s1 (.bl true) q1
theorem de_not {a : Expr} {t : DTE} (h : DE X Y a t) : DE X Y (.UnaryOp .Not a pos) (dNotV t) := by
  refine PE.weak (pe_not h) ?_
  rintro σ H Q0 ⟨F, M, ρ, Q, rs, r, q, k⟩
  refine ⟨F, M, ρ, _, rs, r, q, fun v d F1 M1 H1 s1 rp ⟨b, e, q1⟩ => ?_⟩
  subst e
  cases rp
  exact ⟨b, rfl, k _ _ F1 M1 H1 s1 (.bl _) q1⟩
theorem de_if {c a b : Expr} {tc : DTT} {t u : DTE} (hc : DT X Y c tc) (ha : DE X Y a t) (hb : DE X Y b u) : DE X Y (.IfExp c a b pos) (dIf tc t u) := by
  refine PE.weak (pe_ifExp hc ha hb) ?_
  rintro σ H Q0 ⟨F, M, ρ, Q, rs, r, q, k⟩
  refine ⟨F, M, ρ, _, rs, r, q, fun b F1 M1 H1 s1 q1 => ?_⟩
  cases b with
  | true => exact ⟨F1, M1, ρ, Q, rs.mono s1.same, s1.rel, q1, fun v d F2 M2 H2 s2 => k v d F2 M2 H2 (s1.trans s2)⟩
  | false => exact ⟨F1, M1, ρ, Q, rs.mono s1.same, s1.rel, q1, fun v d F2 M2 H2 s2 => k v d F2 M2 H2 (s1.trans s2)⟩
end

/-! ### blocks and small statements -/
def dNext : DTS := fun D ρ M => D.nx ρ M
def dSeq (t u : DTS) : DTS := fun D ρ M => t { D with nx := u D } ρ M
def dBreak : DTS := fun D ρ M => D.bk ρ M
def dCont : DTS := fun D ρ M => D.ct ρ M
def dDrop (t : DTE) : DTS := fun D ρ M => t ρ M fun _ M1 => D.nx ρ M1
def dRet (t : DTE) : DTS := fun D ρ M => t ρ M D.rt
def dRetN : DTS := fun D _ M => D.rt .non M
def dIfS (c : DTT) (t u : DTS) : DTS := fun D ρ M => c ρ M fun b M1 => if b = true then t D ρ M1 else u D ρ M1
section
variable {X : Cx} {Y : KJ X.K} {pos : Pos}
theorem dss_nil : DSs X Y [] dNext := by
  refine PSs.weak pss_nil ?_
  rintro D0 σ H ⟨F, M, ρ, D, rs, r, q, k⟩
  exact k.nx σ ρ F M H (Stp.refl r) rs q
theorem dss_cons {st : Stmt} {rest : List Stmt} {t u : DTS} (h1 : DS X Y st t) (h2 : DSs X Y rest u) : DSs X Y (st :: rest) (dSeq t u) := by
  refine PSs.weak (pss_cons h1 h2) ?_
  rintro D0 σ H ⟨F, M, ρ, D, rs, r, q, k⟩
  refine ⟨F, M, ρ, _, rs, r, q, ⟨fun σ' ρ' F' M' H' s rs' q' => ?_, k.rt, k.bk, k.ct⟩⟩
  exact ⟨F', M', ρ', D, rs', s.rel, q', k.mono s⟩
theorem dss_one {st : Stmt} {t : DTS} (h1 : DS X Y st t) : DSs X Y [st] t := pss_one h1
theorem ds_pass : DS X Y (.Pass pos) dNext := by
  refine PS.weak ps_pass ?_
  rintro D0 σ H ⟨F, M, ρ, D, rs, r, q, k⟩
  exact k.nx σ ρ F M H (Stp.refl r) rs q
theorem ds_break : DS X Y (.Break pos) dBreak := by
  refine PS.weak ps_break ?_
  rintro D0 σ H ⟨F, M, ρ, D, rs, r, q, k⟩
  exact k.bk σ ρ F M H (Stp.refl r) rs q
theorem ds_continue : DS X Y (.Continue pos) dCont := by
  refine PS.weak ps_continue ?_
  rintro D0 σ H ⟨F, M, ρ, D, rs, r, q, k⟩
  exact k.ct σ ρ F M H (Stp.refl r) rs q
theorem ds_expr {e : Expr} {t : DTE} (he : DE X Y e t) (hs : swapsWith e none pos.line X.env = pure false := by rfl) : DS X Y (.Expr e pos) (dDrop t) := by
  refine PS.weak (ps_expr he hs) ?_
  rintro D0 σ H ⟨F, M, ρ, D, rs, r, q, k⟩
  exact ⟨F, M, ρ, _, rs, r, q, fun v d F1 M1 H1 s1 rp q1 => k.nx σ ρ F1 M1 H1 s1 (rs.mono s1.same) q1⟩
theorem ds_ret {e : Expr} {t : DTE} (he : DE X Y e t) : DS X Y (.Return (some e) pos) (dRet t) := by
  refine PS.weak (ps_ret he) ?_
  rintro D0 σ H ⟨F, M, ρ, D, rs, r, q, k⟩
  exact ⟨F, M, ρ, _, rs, r, q, fun v d F1 M1 H1 s1 rp q1 => k.rt v d F1 M1 H1 s1 rp q1⟩
theorem ds_retN : DS X Y (.Return none pos) dRetN := by
  refine PS.weak ps_retN ?_
  rintro D0 σ H ⟨F, M, ρ, D, rs, r, q, k⟩
  exact k.rt .non .non F M H (Stp.refl r) .non q
theorem ds_if {c : Expr} {a b : List Stmt} {tc : DTT} {t u : DTS} (hc : DT X Y c tc) (ha : DSs X Y a t) (hb : DSs X Y b u) : DS X Y (.If c a b pos) (dIfS tc t u) := by
  refine PS.weak (ps_if hc ha hb) ?_
  rintro D0 σ H ⟨F, M, ρ, D, rs, r, q, k⟩
  refine ⟨F, M, ρ, _, rs, r, q, fun b F1 M1 H1 s1 q1 => ?_⟩
  cases b with
  | true => exact ⟨F1, M1, ρ, D, rs.mono s1.same, s1.rel, q1, k.mono s1⟩
  | false => exact ⟨F1, M1, ρ, D, rs.mono s1.same, s1.rel, q1, k.mono s1⟩
end

/-! ### targets -/
abbrev DTG := D → Rho → Mp → (Rho → Mp → Prop) → Prop
abbrev DTGs := List D → Rho → Mp → (Rho → Mp → Prop) → Prop
/-- off the places ws the slots are as they were -/
def Off (ws : List Nat) (σ σ' : St) : Prop := σ'.length = σ.length ∧ ∀ j : Nat, j ∉ ws → σ'[j]? = σ[j]?
theorem Off.refl (ws : List Nat) (σ : St) : Off ws σ σ := ⟨rfl, fun _ _ => rfl⟩
theorem Off.trans {ws : List Nat} {σ σ1 σ2 : St} (a : Off ws σ σ1) (b : Off ws σ1 σ2) : Off ws σ σ2 := ⟨b.1.trans a.1, fun j h => (b.2 j h).trans (a.2 j h)⟩
theorem Off.more {ws ws' : List Nat} {σ σ' : St} (a : Off ws σ σ') (h : ∀ i ∈ ws, i ∈ ws') : Off ws' σ σ' := ⟨a.1, fun j q => a.2 j fun z => q (h j z)⟩
theorem Off.set (σ : St) (i : Nat) (v : Option V) : Off [i] σ (σ.set i v) := ⟨List.length_set, fun j h => List.getElem?_set_ne (fun e => h (by simp [e]))⟩
theorem wipe_get {σ : St} : ∀ {vs : List Nat} {j : Nat}, (L2.wipe σ vs)[j]? = if j ∈ vs ∧ j < σ.length then some none else σ[j]?
  | [], j => by simp [L2.wipe]
  | v :: vs, j => by
    unfold L2.wipe
    by_cases e : v = j
    · subst e
      by_cases h : v < σ.length
      · rw [List.getElem?_set_self (by rw [L2.wipe_length]; exact h)]; simp [h]
      · rw [List.getElem?_eq_none (by rw [List.length_set, L2.wipe_length]; omega)]; simp [h]
    · rw [List.getElem?_set_ne e, wipe_get (vs := vs)]
      have : (j ∈ v :: vs) ↔ j ∈ vs := by simp [List.mem_cons, Ne.symm e]
      simp only [this]
theorem Off.wipe {ws : List Nat} {σ σ' : St} (a : Off ws σ σ') : L2.wipe σ' ws = L2.wipe σ ws := by
  apply List.ext_getElem?
  intro j
  rw [wipe_get, wipe_get, a.1]
  by_cases h : j ∈ ws
  · by_cases hl : j < σ.length
    · simp [h, hl]
    · rw [if_neg (by simp [hl]), if_neg (by simp [hl]), List.getElem?_eq_none (by rw [a.1]; omega), List.getElem?_eq_none (by omega)]
  · rw [if_neg (by simp [h]), if_neg (by simp [h])]
    exact a.2 j h
theorem wipe_idem {σ : St} {ws : List Nat} : L2.wipe (L2.wipe σ ws) ws = L2.wipe σ ws := by
  apply List.ext_getElem?
  intro j
  rw [wipe_get, wipe_get, L2.wipe_length]
  by_cases h : j ∈ ws ∧ j < σ.length
  · rw [if_pos h, if_pos h]
  · rw [if_neg h, if_neg h]
def canG {K : PySem.W.Frag} (Y : KJ K) (g : DTG) (ws : List Nat) : TG := fun v σ H Q0 => ∃ F M ρ d Q, Rp K F v d ∧ RelS K F σ ρ ∧ Rel Y F M H ∧ g d ρ M Q ∧
  ∀ σ' ρ' F' M' H', Stp Y F M H F' M' H' → RelS K F' σ' ρ' → Off ws σ σ' → Q ρ' M' → Q0 σ' H'
def canGs {K : PySem.W.Frag} (Y : KJ K) (g : DTGs) (ws : List Nat) : TGs := fun vs σ H Q0 => ∃ F M ρ ds Q, RpAll K F vs ds ∧ RelS K F σ ρ ∧ Rel Y F M H ∧ g ds ρ M Q ∧
  ∀ σ' ρ' F' M' H', Stp Y F M H F' M' H' → RelS K F' σ' ρ' → Off ws σ σ' → Q ρ' M' → Q0 σ' H'
abbrev DG (X : Cx) (Y : KJ X.K) (e : Expr) (g : DTG) (ws : List Nat) : Prop := PG X e (canG Y g ws)
abbrev DGs (X : Cx) (Y : KJ X.K) (es : List Expr) (g : DTGs) (ws : List Nat) : Prop := PGs X es (canGs Y g ws)
section
variable {X : Cx} {Y : KJ X.K} {pos : Pos}
theorem PG.weak {e : Expr} {t u : TG} (h : PG X e t) (w : ∀ v σ H Q, u v σ H Q → t v σ H Q) : PG X e u := ⟨fun p s σ H v z Q I r q => h.run p s σ H v z Q I r (w v σ H Q q)⟩
theorem PGs.weak {es : List Expr} {t u : TGs} (h : PGs X es t) (w : ∀ v σ H Q, u v σ H Q → t v σ H Q) : PGs X es u := ⟨fun p s σ H v z Q I r q => h.run p s σ H v z Q I r (w v σ H Q q)⟩
def dgName (i : Nat) : DTG := fun d ρ M Q => Q (ρ.set i (some d)) M
theorem dg_name {i : Nat} {x : Str} (hN : X.N.Nodup) (hi : X.N[i]? = some x) (hx : Loc X.env.scope x) (hf : X.fn x = true ∨ X.env.scope.names.lookup x = some .local := by first | exact .inl rfl | exact .inr rfl | assumption) : DG X Y (.Name x pos) (dgName i) [i] := by
  refine PG.weak (pg_name hN hi hx hf) ?_
  rintro v σ H Q0 ⟨F, M, ρ, d, Q, rp, rs, r, q, k⟩
  exact k _ _ F M H (Stp.refl r) (rs.set rp i) (Off.set σ i _) q
def dgNil : DTGs := fun ds ρ M Q => ds = [] ∧ Q ρ M
def dgCons (t : DTG) (u : DTGs) : DTGs := fun ds ρ M Q => ∃ d r, ds = d :: r ∧ t d ρ M fun ρ1 M1 => u r ρ1 M1 Q
theorem dgs_nil : DGs X Y [] dgNil [] := by
  refine PGs.weak pgs_nil ?_
  rintro vs σ H Q0 ⟨F, M, ρ, ds, Q, rp, rs, r, ⟨e, q⟩, k⟩
  subst e
  cases rp
  exact ⟨rfl, k _ _ F M H (Stp.refl r) rs (Off.refl _ _) q⟩
theorem dgs_cons {e : Expr} {es : List Expr} {t : DTG} {u : DTGs} {w1 w2 : List Nat} (h1 : DG X Y e t w1) (h2 : DGs X Y es u w2)
    (hs : (assignEach (e :: es) X.env).map (·.2) = assign e X.env :: (assignEach es X.env).map (·.2) := by rfl) : DGs X Y (e :: es) (dgCons t u) (w1 ++ w2) := by
  refine PGs.weak (pgs_cons h1 h2 hs) ?_
  rintro vs σ H Q0 ⟨F, M, ρ, ds, Q, rp, rs, r, ⟨d, rr, e, q⟩, k⟩
  subst e
  cases rp with
  | cons rh rt =>
    refine ⟨_, _, rfl, F, M, ρ, d, _, rh, rs, r, q, fun σ1 ρ1 F1 M1 H1 s1 rs1 o1 q1 => ?_⟩
    exact ⟨F1, M1, ρ1, rr, Q, rt.mono s1.same, rs1, s1.rel, q1, fun σ2 ρ2 F2 M2 H2 s2 rs2 o2 => k σ2 ρ2 F2 M2 H2 (s1.trans s2) rs2 ((o1.more fun i h => List.mem_append_left _ h).trans (o2.more fun i h => List.mem_append_right _ h))⟩
def dgTup (n : Nat) (t : DTGs) : DTG := fun d ρ M Q => ∃ ds, d = .tup ds ∧ ds.length = n ∧ t ds ρ M Q
theorem dg_tup {es : List Expr} {k : Nat} {t : DTGs} {n : Nat} {ws : List Nat} (hc : X.calm = true) (h : DGs X Y es t ws)
    (hn : (assignEach es X.env).length = n := by rfl) (hst : (assignEach es X.env).findIdx? (·.1) = none := by rfl) : DG X Y (.Tuple es k pos) (dgTup n t) ws := by
  refine PG.weak (pg_tup hc h hn hst) ?_
  rintro v σ H Q0 ⟨F, M, ρ, d, Q, rp, rs, r, ⟨ds, e, hl, q⟩, k⟩
  subst e
  cases rp with
  | tup sq ra =>
    have sq' := Same.tseq r.sub sq
    exact ⟨_, _, rfl, sq', by rw [ra.length]; exact hl, F, M, ρ, ds, Q, ra, rs, r, q, k⟩
/-- o[i] = v -/
abbrev DTSet := D → D → D → Mp → (Mp → Prop) → Prop
def canSet {K : PySem.W.Frag} (Y : KJ K) (t : DTSet) : TSet := fun o i v H Q0 => ∃ F M od id vd Q, Rp K F o od ∧ Rp K F i id ∧ Rp K F v vd ∧ Rel Y F M H ∧ t od id vd M Q ∧
  ∀ F' M' H', Stp Y F M H F' M' H' → Q M' → Q0 H'
theorem PSet.weak {t u : TSet} (h : PSet X t) (w : ∀ o i v H Q, u o i v H Q → t o i v H Q) : PSet X u := fun p s σ H o i v ov iv z Q I r1 r2 r3 q => h p s σ H o i v ov iv z Q I r1 r2 r3 (w o i v H Q q)
def dgSub (to ti : DTE) (t : DTSet) : DTG := fun d ρ M Q => to ρ M fun o M1 => ti ρ M1 fun i M2 => t o i d M2 fun M3 => Q ρ M3
theorem dg_sub {o i : Expr} {to ti : DTE} {t : DTSet} (ho : DE X Y o to) (hi : DE X Y i ti) (hs : PSet X (canSet Y t))
    (ha : ∀ v, assign (.Subscript o i pos) X.env v = (do
      let ov ← holding [v] (eval o X.env)
      let iv ← holding [v, ov] (eval i X.env)
      standAt pos
      holding [v, ov, iv] (setItem ov iv v)
      release [v, ov, iv] []) := by intro _; rfl) : DG X Y (.Subscript o i pos) (dgSub to ti t) [] := by
  refine PG.weak (pg_sub ho hi hs ha) ?_
  rintro v σ H Q0 ⟨F, M, ρ, d, Q, rp, rs, r, q, k⟩
  refine ⟨F, M, ρ, _, rs, r, q, fun ov od F1 M1 H1 s1 rp1 q1 => ?_⟩
  refine ⟨F1, M1, ρ, _, rs.mono s1.same, s1.rel, q1, fun iv id F2 M2 H2 s2 rp2 q2 => ?_⟩
  have s12 := s1.trans s2
  exact ⟨F2, M2, od, id, d, _, rp1.mono s2.same, rp2, rp.mono s12.same, s2.rel, q2, fun F3 M3 H3 s3 q3 => k σ ρ F3 M3 H3 (s12.trans s3) (rs.mono (s12.trans s3).same) (Off.refl _ _) q3⟩
def dAsg (t : DTE) (g : DTG) : DTS := fun D ρ M => t ρ M fun d M1 => g d ρ M1 D.nx
theorem can_asg {K : PySem.W.Frag} {Y : KJ K} {t : DTE} {g : DTG} {ws : List Nat} {D0 : Ends} {σ : St} {H : Hp} (h : canS Y (dAsg t g) D0 σ H) : tAsg (canE Y t) (canG Y g ws) D0 σ H := by
  obtain ⟨F, M, ρ, D, rs, r, q, k⟩ := h
  refine ⟨F, M, ρ, _, rs, r, q, fun v d F1 M1 H1 s1 rp q1 => ?_⟩
  exact ⟨F1, M1, ρ, d, D.nx, rp, rs.mono s1.same, s1.rel, q1, fun σ2 ρ2 F2 M2 H2 s2 rs2 _ q2 => k.nx σ2 ρ2 F2 M2 H2 (s1.trans s2) rs2 q2⟩
theorem ds_asg {tg e : Expr} {t : DTE} {g : DTG} {ws : List Nat} (he : DE X Y e t) (hg : DG X Y tg g ws) (hs : swapsWithSole [tg] e pos.line X.env = pure false := by rfl) (hw : swappedStores [tg] e X.env = pure none := by rfl)
    (h1 : (assignEach [tg] X.env).map (·.2) = [assign tg X.env] := by rfl) : DS X Y (.Assign [tg] e pos) (dAsg t g) :=
  PS.weak (ps_asg he hg hs hw h1) fun _ _ _ q => can_asg q
theorem ds_set {i : Nat} {x : Str} {e : Expr} {t : DTE} {pos' : Pos} (hN : X.N.Nodup) (hi : X.N[i]? = some x) (hx : Loc X.env.scope x) (he : DE X Y e t) (hs : swapsWith e (some (.Name x pos')) pos.line X.env = pure false := by rfl) (hf : X.fn x = true ∨ X.env.scope.names.lookup x = some .local := by first | exact .inl rfl | exact .inr rfl | assumption) :
    DS X Y (.Assign [.Name x pos'] e pos) (dAsg t (dgName i)) := by
  refine PS.weak (ps_set hN hi hx he hs hf) ?_
  rintro D0 σ H ⟨F, M, ρ, D, rs, r, q, k⟩
  refine ⟨F, M, ρ, _, rs, r, q, fun v d F1 M1 H1 s1 rp q1 => ?_⟩
  exact k.nx _ _ F1 M1 H1 s1 ((rs.mono s1.same).set rp i) q1
def dPar (i j : Nat) (t : DTA) : DTS := fun D ρ M => t ρ M fun ds M1 => ∃ d e, ds = [d, e] ∧ D.nx ((ρ.set i (some d)).set j (some e)) M1
theorem ds_par {i j : Nat} {x y : Str} {a b : Expr} {t : DTA} {px py pt : Pos} {kt k2 pt2} (hc : X.calm = true) (hN : X.N.Nodup) (hi : X.N[i]? = some x) (hj : X.N[j]? = some y) (hij : i ≠ j)
    (hx : X.env.scope.names.lookup x = some .local) (hy : X.env.scope.names.lookup y = some .local) (ha : DA X Y [a, b] t)
    (hw : swappedStores [.Tuple [.Name x px, .Name y py] kt pt] (.Tuple [a, b] k2 pt2) X.env = pure (some [x, y]) := by rfl) : DS X Y (.Assign [.Tuple [.Name x px, .Name y py] kt pt] (.Tuple [a, b] k2 pt2) pos) (dPar i j t) := by
  refine PS.weak (ps_par hc hN hi hj hij hx hy ha hw) ?_
  rintro D0 σ H ⟨F, M, ρ, D, rs, r, q, k⟩
  refine ⟨F, M, ρ, _, rs, r, q, fun vs ds F1 M1 H1 s1 rp ⟨d, e, he, q1⟩ => ?_⟩
  subst he
  cases rp with
  | cons r1 rt =>
    cases rt with
    | cons r2 rt2 =>
      cases rt2
      exact ⟨_, _, rfl, k.nx _ _ F1 M1 H1 s1 (((rs.mono s1.same).set r1 i).set r2 j) q1⟩
end

/-! ### while -/
def dWhile (c : DTT) (tb : DTS) : DTS := fun D ρ M => ∃ W : Nat → Rho → Mp → Prop, (∃ m, W m ρ M) ∧ ∀ m ρ M, W m ρ M →
  c ρ M fun b M1 => if b = true then ∃ N : Rho → Mp → Prop, (∀ ρ' M', N ρ' M' → ∃ m', m' < m ∧ W m' ρ' M') ∧ tb { D with nx := N, ct := N, bk := D.nx } ρ M1 else D.nx ρ M1
section
variable {X : Cx} {Y : KJ X.K} {pos : Pos}
theorem ds_while {c : Expr} {body : List Stmt} {tc : DTT} {tb : DTS} (hp : PassesOwn (model X.prog X.w) X.A X.env X.xe) (hc : DT X Y c tc) (hb : DSs X Y body tb) : DS X Y (.While c body [] pos) (dWhile tc tb) := by
  refine PS.weak (ps_while hp hc hb) ?_
  rintro D0 σ H ⟨F, M, ρ, D, rs, r, ⟨W, ⟨m0, w0⟩, turn⟩, k⟩
  refine ⟨fun m σ' H' => ∃ F1 M1 ρ1, Stp Y F M H F1 M1 H' ∧ RelS X.K F1 σ' ρ1 ∧ W m ρ1 M1, ⟨m0, F, M, ρ, Stp.refl r, rs, w0⟩, ?_⟩
  rintro m σ1 H1 ⟨F1, M1, ρ1, s1, rs1, w1⟩
  refine ⟨F1, M1, ρ1, _, rs1, s1.rel, turn m ρ1 M1 w1, fun b F2 M2 H2 s2 q2 => ?_⟩
  have s12 := s1.trans s2
  cases b with
  | false => exact k.nx σ1 ρ1 F2 M2 H2 s12 (rs1.mono s2.same) q2
  | true =>
    obtain ⟨N, hN, q2⟩ := q2
    refine iteT ?_
    refine ⟨fun σ' H' => ∃ m', m' < m ∧ ∃ F1 M1 ρ1, Stp Y F M H F1 M1 H' ∧ RelS X.K F1 σ' ρ1 ∧ W m' ρ1 M1, fun σ' H' h => h, ?_⟩
    refine ⟨F2, M2, ρ1, _, rs1.mono s2.same, s2.rel, q2, ⟨fun σ' ρ' F' M' H' s rs' n => ?_, fun v d F' M' H' s => k.rt v d F' M' H' (s12.trans s), fun σ' ρ' F' M' H' s => k.nx σ' ρ' F' M' H' (s12.trans s), fun σ' ρ' F' M' H' s rs' n => ?_⟩⟩
    all_goals
      obtain ⟨m', hm, w'⟩ := hN ρ' M' n
      exact ⟨m', hm, F', M', ρ', s12.trans s, rs', w'⟩
end

/-! ### what is walked -/
structure JW {K : PySem.W.Frag} (Y : KJ K) (F : Hp) (J : It) (items : List D) (G : Mp → Prop) : Prop where
  run : ∀ F1 M1 H1, Same F F1 → Rel Y F1 M1 H1 → G M1 → J.stop items.length H1 ∧ ∀ (i : Nat) (d : D), items[i]? = some d → J.go i H1 ∧ ∀ x H2, J.yld i H1 x H2 → ∃ F2, Stp Y F1 M1 H1 F2 M1 H2 ∧ Rp K F2 x d
abbrev DTI := Rho → Mp → (List D → (Mp → Prop) → Mp → Prop) → Prop
def canI {K : PySem.W.Frag} (Y : KJ K) (wi : DTI) : TI := fun σ H R0 => ∃ F M ρ R, RelS K F σ ρ ∧ Rel Y F M H ∧ wi ρ M R ∧
  ∀ J items G F' M' H', Stp Y F M H F' M' H' → JW Y F' J items G → R items G M' → R0 J H'
abbrev DI (X : Cx) (Y : KJ X.K) (tg iter : Expr) (wi : DTI) : Prop := PI X tg iter (canI Y wi)
section
variable {X : Cx} {Y : KJ X.K} {pos : Pos}
theorem PI.weak {tg e : Expr} {t u : TI} (h : PI X tg e t) (w : ∀ σ H R, u σ H R → t σ H R) : PI X tg e u := ⟨fun p s σ H R I q => h.run p s σ H R I (w σ H R q)⟩
/-- a for over the items -/
def forW (g : DTG) (tb : DTS) (D : DEnds) (G : Mp → Prop) : List DL.D → Rho → Mp → Prop
  | [], ρ, M => G M ∧ D.nx ρ M
  | x :: xs, ρ, M => G M ∧ g x ρ M fun ρ2 M2 => tb { D with nx := forW g tb D G xs, ct := forW g tb D G xs, bk := D.nx } ρ2 M2
def dFor (wi : DTI) (g : DTG) (tb : DTS) : DTS := fun D ρ M => wi ρ M fun items G M1 => forW g tb D G items ρ M1
theorem ds_for {tg iter : Expr} {body : List Stmt} {wi : DTI} {g : DTG} {ws : List Nat} {tb : DTS} (hp : PassesOwn (model X.prog X.w) X.A X.env X.xe) (hc : X.calm = true) (hi : DI X Y tg iter wi) (hg : DG X Y tg g ws) (hb : DSs X Y body tb)
    (hs : ∀ x, foldedSetIterable iter X.env x = pure x := by intro _; rfl) : DS X Y (.For tg iter body [] pos) (dFor wi g tb) := by
  refine PS.weak (ps_for hp hc hi hg hb hs) ?_
  rintro D0 σ H ⟨F, M, ρ, D, rs, r, q, k⟩
  refine ⟨F, M, ρ, _, rs, r, q, fun J items G F1 M1 H1 s1 jw q1 => ?_⟩
  refine ⟨fun i m σ' H' => m = items.length - i ∧ i ≤ items.length ∧ ∃ F2 M2 ρ2, Stp Y F1 M1 H1 F2 M2 H' ∧ RelS X.K F2 σ' ρ2 ∧ forW g tb D G (items.drop i) ρ2 M2,
    ⟨items.length, by simp, Nat.zero_le _, F1, M1, ρ, Stp.refl s1.rel, rs.mono s1.same, q1⟩, ?_⟩
  rintro i m σ' H' ⟨rfl, hi, F2, M2, ρ2, s2, rs2, q2⟩
  by_cases hlt : i < items.length
  · rw [List.drop_eq_getElem_cons hlt] at q2
    obtain ⟨g2, q2⟩ := q2
    have jj := (jw.run F2 M2 H' s2.same s2.rel g2).2 i items[i] (List.getElem?_eq_getElem hlt)
    refine .inr ⟨jj.1, fun σ3 H3 => ∃ m', m' < items.length - i ∧ (m' = items.length - (i + 1) ∧ i + 1 ≤ items.length ∧ ∃ F2 M2 ρ2, Stp Y F1 M1 H1 F2 M2 H3 ∧ RelS X.K F2 σ3 ρ2 ∧ forW g tb D G (items.drop (i + 1)) ρ2 M2), fun σ3 H3 h => h, fun x H3 y => ?_⟩
    obtain ⟨F3, s3, rp⟩ := jj.2 x H3 y
    have s23 := s2.trans s3
    refine ⟨F3, M2, ρ2, items[i], _, rp, rs2.mono s3.same, s3.rel, q2, fun σ4 ρ4 F4 M4 H4 s4 rs4 _ q4 => ?_⟩
    have s24 := s23.trans s4
    refine ⟨F4, M4, ρ4, _, rs4, s4.rel, q4, ⟨fun σ5 ρ5 F5 M5 H5 s5 rs5 n => ?_, fun v d F' M' H' s => k.rt v d F' M' H' ((s1.trans s24).trans s), fun a b F' M' H' s => k.nx a b F' M' H' ((s1.trans s24).trans s), fun σ5 ρ5 F5 M5 H5 s5 rs5 n => ?_⟩⟩
    all_goals exact ⟨items.length - (i + 1), by omega, rfl, hlt, F5, M5, ρ5, s24.trans s5, rs5, n⟩
  · have e : i = items.length := by omega
    subst e
    rw [List.drop_length] at q2
    obtain ⟨g2, q2⟩ := q2
    exact .inl ⟨(jw.run F2 M2 H' s2.same s2.rel g2).1, k.nx σ' ρ2 F2 M2 H' (s1.trans s2) rs2 q2⟩

/-! ### list comprehensions -/
def dYes : DTT := fun _ M Q => Q true M
abbrev DTs (X : Cx) (Y : KJ X.K) (ifs : List Expr) (t : DTT) : Prop := PTs X ifs (canT Y t)
theorem dts_nil : DTs X Y [] dYes := by
  refine PTs.weak pts_nil ?_
  rintro σ H Q0 ⟨F, M, ρ, Q, rs, r, q, k⟩
  exact k true F M H (Stp.refl r) q
theorem dts_one {c : Expr} {t : DTT} (h : DT X Y c t) : DTs X Y [c] t := pts_one h
def lcW (g : DTG) (tt : DTT) (te : DTE) (G : Mp → Prop) (ρ : Rho) (k : List DL.D → Mp → Prop) : List DL.D → List DL.D → Mp → Prop
  | [], acc, M => G M ∧ k acc M
  | x :: xs, acc, M => G M ∧ g x ρ M fun ρ2 M2 => tt ρ2 M2 fun b M3 => if b = true then te ρ2 M3 fun d M4 => acc.length < sizeLine ∧ lcW g tt te G ρ k xs (acc ++ [d]) M4 else lcW g tt te G ρ k xs acc M3
def dLc (fz : Bool) (wi : DTI) (g : DTG) (tt : DTT) (te : DTE) (vs : List Nat) : DTE := fun ρ M Q => wi ρ M fun items G M1 => lcW g tt te G (dwipe ρ vs) (fun ds M2 => newL fz ds M2 Q) items [] M1
theorem can_lc {K : PySem.W.Frag} {Y : KJ K} {fz : Bool} {wi : DTI} {g : DTG} {ws : List Nat} {tt : DTT} {te : DTE} {vs : List Nat} {σ : St} {H : Hp} {Q0 : VK} (hv : ∀ i ∈ ws, i ∈ vs) (h : canE Y (dLc fz wi g tt te vs) σ H Q0) :
    tLc (canI Y wi) (canG Y g ws) (canT Y tt) (canE Y te) vs σ H Q0 := by
  obtain ⟨F, M, ρ, Q, rs, r, q, k⟩ := h
  refine ⟨F, M, ρ, _, rs, r, q, fun J items G F1 M1 H1 s1 jw q1 => ?_⟩
  intro D hD
  have fD : F1 D = none := s1.rel.fnone hD
  have mD : M1 D = none := s1.rel.mnone hD
  -- the new list stands beside what is told
  let Pv : Nat → Hp → Prop := fun i H' => i ≤ items.length ∧ ∃ F2 M2 acc xs, Stp Y F1 M1 H1 F2 M2 H' ∧ F2 D = none ∧ M2 D = none ∧ H' D = some (.lst xs) ∧ RpAll K F2 xs acc ∧ lcW g tt te G (dwipe ρ vs) (fun ds M2 => newL fz ds M2 Q) (items.drop i) acc M2
  have s0 : Stp Y F1 M1 H1 F1 M1 (upd H1 D (.lst [])) := by
    refine Stp.of s1.rel ⟨Same.refl F1, ⟨fun b u z => ?_, fun a m z => ?_, s1.rel.r.nt⟩, fun a o h f m _ => ?_, tabs_new hD _⟩
    · rw [upd_ne (ne_of_none (s1.rel.sub _ _ z) hD)]; exact s1.rel.sub _ _ z
    · obtain ⟨f, o, e, rr⟩ := s1.rel.mt a m z
      exact ⟨f, o, by rw [upd_ne (ne_of_none e hD)]; exact e, rr⟩
    · rw [upd_ne (ne_of_none h hD)]; exact ⟨h, f, m⟩
  refine ⟨fun i m H' => m = items.length - i ∧ Pv i H', ⟨items.length, by simp, Nat.zero_le _, F1, M1, [], [], s0, fD, mD, upd_same, .nil, q1⟩, ?_⟩
  rintro i m H2 ⟨rfl, hi, F2, M2, acc, xs, s2, f2, m2, h2, ra, q2⟩
  by_cases hlt : i < items.length
  · rw [List.drop_eq_getElem_cons hlt] at q2
    obtain ⟨g2, q2⟩ := q2
    have jj := (jw.run F2 M2 H2 s2.same s2.rel g2).2 i items[i] (List.getElem?_eq_getElem hlt)
    refine .inr ⟨jj.1, fun H3 => ∃ m', m' < items.length - i ∧ (m' = items.length - (i + 1) ∧ Pv (i + 1) H3), fun H3 h => h, fun x H3 y => ?_⟩
    obtain ⟨F3, s3, rp⟩ := jj.2 x H3 y
    obtain ⟨h3, f3, m3⟩ := s3.fr D _ h2 f2 m2 (fun _ z => nomatch z)
    have s23 := s2.trans s3
    refine ⟨F3, M2, dwipe ρ vs, items[i], _, rp, ((rs.mono s1.same).mono s23.same).wipe vs, s3.rel, q2, fun σ4 ρ4 F4 M4 H4 s4 rs4 o4 q4 => ?_⟩
    obtain ⟨h4, f4, m4⟩ := s4.fr D _ h3 f3 m3 (fun _ z => nomatch z)
    have s24 := s23.trans s4
    refine ⟨(o4.more hv).wipe.trans wipe_idem, F4, M4, ρ4, _, rs4, s4.rel, q4, fun b F5 M5 H5 s5 q5 => ?_⟩
    obtain ⟨h5, f5, m5⟩ := s5.fr D _ h4 f4 m4 (fun _ z => nomatch z)
    have s25 := s24.trans s5
    cases b with
    | false =>
      refine iteF ?_
      exact ⟨items.length - (i + 1), by omega, rfl, hlt, F5, M5, acc, xs, s25, f5, m5, h5, (((ra.mono s3.same).mono s4.same).mono s5.same), q5⟩
    | true =>
      refine iteT ?_
      refine ⟨F5, M5, ρ4, _, rs4.mono s5.same, s5.rel, q5, fun v d F6 M6 H6 s6 rp6 ⟨hl, q6⟩ => ?_⟩
      obtain ⟨h6, f6, m6⟩ := s6.fr D _ h5 f5 m5 (fun _ z => nomatch z)
      have s26 := s25.trans s6
      have ra6 : RpAll K F6 (xs ++ [v]) (acc ++ [d]) := (((((ra.mono s3.same).mono s4.same).mono s5.same).mono s6.same)).append (.cons rp6 .nil)
      refine ⟨xs, h6, by rw [ra.length]; exact hl, items.length - (i + 1), by omega, rfl, hlt, F6, M6, acc ++ [d], xs ++ [v], ?_, f6, m6, upd_same, ra6, q6⟩
      refine Stp.of s1.rel ⟨s26.same, ⟨fun b u z => ?_, fun a m z => ?_, s6.rel.r.nt⟩, fun a o h f m n => ?_, fun t => tabs_lst h6 (s26.s.tab t)⟩
      · rw [upd_ne (ne_of_none z f6)]; exact s6.rel.sub _ _ z
      · obtain ⟨f, o, e, rr⟩ := s6.rel.mt a m z
        have ne : a ≠ D := fun e => by subst e; rw [m6] at z; cases z
        exact ⟨f, o, by rw [upd_ne ne]; exact e, rr⟩
      · obtain ⟨h', f', m'⟩ := s26.fr a o h f m n
        rw [upd_ne (ne_of_none h hD)]; exact ⟨h', f', m'⟩
  · have e : i = items.length := by omega
    subst e
    rw [List.drop_length] at q2
    obtain ⟨g2, q2⟩ := q2
    refine .inl ⟨(jw.run F2 M2 H2 s2.same s2.rel g2).1, ?_⟩
    have sn : Same F2 (upd F2 D (.lst xs)) := same_new f2
    cases fz with
    | true =>
      refine k (.ref D) (.lst acc) (upd F2 D (.lst xs)) M2 H2 (s1.trans (Stp.of s1.rel ⟨s2.same.trans sn, ⟨fun b u z => ?_, fun a m z => ?_, fun a ps z => ?_⟩, fun a o h f m n => ?_, s2.s.tab⟩)) (.lst upd_same (ra.mono sn)) q2
      · by_cases e : b = D
        · subst e; rw [upd_same] at z; cases z; exact h2
        · rw [upd_ne e] at z; exact s2.rel.sub _ _ z
      · obtain ⟨f, o, e, rr⟩ := s2.rel.mt a m z
        have ne : a ≠ D := fun e => by subst e; rw [m2] at z; cases z
        exact ⟨by rw [upd_ne ne]; exact f, o, e, rr.mono sn⟩
      · by_cases e : a = D
        · subst e; rw [upd_same] at z; cases z
        · rw [upd_ne e] at z; exact s2.rel.r.nt a ps z
      · obtain ⟨h', f', m'⟩ := s2.fr a o h f m n
        exact ⟨h', by rw [upd_ne (ne_of_none h hD)]; exact f', m'⟩
    | false =>
      refine k (.ref D) (.ref D) F2 (mu M2 D (.lst acc)) H2 (s1.trans (Stp.of s1.rel ⟨s2.same, ⟨s2.rel.sub, fun a m z => ?_, s2.rel.r.nt⟩, fun a o h f m n => ?_, s2.s.tab⟩)) (.ref D) (q2 D m2)
      · by_cases e : a = D
        · subst e; rw [mu_same] at z; cases z; exact ⟨f2, _, h2, ra⟩
        · rw [mu_ne e] at z; exact s2.rel.mt a m z
      · obtain ⟨h', f', m'⟩ := s2.fr a o h f m n
        exact ⟨h', f', by rw [mu_ne (ne_of_none h hD)]; exact m'⟩
section
variable {X : Cx} {Y : KJ X.K} {pos : Pos}
theorem de_lc (fz : Bool) {elt tg iter : Expr} {ifs : List Expr} {scope : Scope} {own : List (Str × Nat)} {wi : DTI} {g : DTG} {ws : List Nat} {tt : DTT} {te : DTE} (hc : X.calm = true) (hN : X.N.Nodup) (hi : DI X Y tg iter wi) (ok : BlkOk X.N X.env.scope scope own) (hv : ∀ i ∈ ws, i ∈ own.map (·.2))
    (hg : ∀ (s : Shared) (H : Hp) (C : Addr) (cl : List (Str × Addr)) (fp : List Addr), DG (X.blk s H scope (compEnvC scope cl C X.env) fp) Y tg g ws) (ht : ∀ (s : Shared) (H : Hp) (C : Addr) (cl : List (Str × Addr)) (fp : List Addr), DTs (X.blk s H scope (compEnvC scope cl C X.env) fp) Y ifs tt)
    (he : ∀ (s : Shared) (H : Hp) (C : Addr) (cl : List (Str × Addr)) (fp : List Addr), DE (X.blk s H scope (compEnvC scope cl C X.env) fp) Y elt te) (hs : ∀ x, foldedSetIterable iter X.env x = pure x := by intro _; rfl) :
    DE X Y (.ListComp elt [⟨tg, iter, ifs, 0⟩] scope pos) (dLc fz wi g tt te (own.map (·.2))) :=
  PE.weak (pe_lc hc hN hi ok hg ht he hs) fun _ _ _ q => can_lc hv q
theorem ds_setLc (fz : Bool) {i : Nat} {y : Str} {py : Pos} {elt tg iter : Expr} {ifs : List Expr} {scope : Scope} {own : List (Str × Nat)} {spos : Pos} {wi : DTI} {g : DTG} {ws : List Nat} {tt : DTT} {te : DTE} (hc : X.calm = true) (hN : X.N.Nodup) (hy : X.N[i]? = some y) (hyl : X.env.scope.names.lookup y = some .local)
    (hsw : swapsWith (.ListComp elt [⟨tg, iter, ifs, 0⟩] scope pos) (some (.Name y py)) spos.line X.env = pure true) (hi : DI X Y tg iter wi) (ok : BlkOk X.N X.env.scope scope own) (hv : ∀ i ∈ ws, i ∈ own.map (·.2))
    (hg : ∀ (s : Shared) (H : Hp) (C : Addr) (cl : List (Str × Addr)) (fp : List Addr), DG (X.blk s H scope (compEnvC scope cl C X.env) fp) Y tg g ws) (ht : ∀ (s : Shared) (H : Hp) (C : Addr) (cl : List (Str × Addr)) (fp : List Addr), DTs (X.blk s H scope (compEnvC scope cl C X.env) fp) Y ifs tt)
    (he : ∀ (s : Shared) (H : Hp) (C : Addr) (cl : List (Str × Addr)) (fp : List Addr), DE (X.blk s H scope (compEnvC scope cl C X.env) fp) Y elt te) (hs : ∀ x, foldedSetIterable iter X.env x = pure x := by intro _; rfl) :
    DS X Y (.Assign [.Name y py] (.ListComp elt [⟨tg, iter, ifs, 0⟩] scope pos) spos) (dAsg (dLc fz wi g tt te (own.map (·.2))) (dgName i)) := by
  refine PS.weak (ps_setLc (g := canG Y g ws) (tt := canT Y tt) (te := canE Y te) hc hN hy hyl hsw hi ok hg ht he hs) ?_
  rintro D0 σ H ⟨F, M, ρ, D, rs, r, q, k⟩
  refine can_lc hv ⟨F, M, ρ, _, rs, r, q, fun v d F1 M1 H1 s1 rp q1 => ?_⟩
  exact k.nx _ _ F1 M1 H1 s1 ((rs.mono s1.same).set rp i) q1
end

end
end DL

/-! DG: the promise of a def where no repr is under way around it (guards = []); its call, its proof by the body, the law's end. -/
namespace DL
open PySem PySem.Spec L2
open PyProof.Rows hiding St

/-- as FnOk, but asked only where no repr is under way -/
structure GnOk (P : Program) (w : World) (K : PySem.W.Frag) (mg : Str → Option Value) (base : Heap) (CX : CXT) (k : Nat) (f : Addr) (fd : FuncData) (ps : List Str) (sp : Sp) : Prop where
  many : ∀ {vs H Q E}, sp vs H Q E → vs.length = ps.length
  go : ∀ {A : Around} {outer : List Env} {s : Shared} {H : Hp} {args : Args} {us : List Value} {vs : List V} {Q : VK} {E : XK},
    Room k A → A.guards = some [] → Env0 P w K mg base A outer s H → BindsTo s fd args (ps.zip us) → Vals vs us → sp vs H Q E →
    codeAny (model P w) A (.call (.ref f) args) (CR CX outer P w H s Q E) s
theorem GnOk.up {P : Program} {w : World} {K : PySem.W.Frag} {mg : Str → Option Value} {base : Heap} {CX : CXT} {j k : Nat} {f : Addr} {fd : FuncData} {ps : List Str} {sp : Sp}
    (G : GnOk P w K mg base CX j f fd ps sp) (h : j ≤ k) : GnOk P w K mg base CX k f fd ps sp :=
  ⟨G.many, fun r => G.go (r.mono h)⟩
section
variable {X : Cx} {Y : KJ X.K} {CX : CXT} {k : Nat} {f : Addr} {fd : FuncData} {ps : List Str} {sp : Sp} {dvs : List V} {ds : List Value} {E : XK} {x : Str} {p pos : Pos} {e : Expr} {es : List Expr} {t : TA}
theorem run_gn {pins : List (Addr × Obj)} {σ : St} {H : Hp} {s : Shared} {Q : VK} {us : List Value} {vs : List V}
    (G : GnOk X.prog X.w X.K X.mg X.base CX k f fd ps sp) (room : Room k X.A) (gu : X.A.guards = some []) (bi : Binds X.K fd ps ds) (dv : Vals dvs ds) (out : Passes CX X E)
    (I : Inv X pins σ H s) (rv : Vals vs us) (q : sp (vs ++ dvs) H Q E) : wpAny (model X.prog X.w) X.A (call (.ref f) us) (EP X pins σ Q) X.xe s := by
  have all := rv.append dv
  have cnt : (us ++ ds).length = ps.length := all.length.symm.trans (G.many q)
  refine wpAny_call (codeAny_mono (G.go room gu I.env0 (bi s us I.kIn cnt) all q) fun res s' hq => ?_)
  match res, hq with
  | .error er, hq => exact out pins σ H s er s' I hq
  | .ok (.ret u), hq => exact I.after hq
  | .ok .next, hq => exact hq.elim
  | .ok .brk, hq => exact hq.elim
  | .ok .cont, hq => exact hq.elim
theorem pe_gcall (G : GnOk X.prog X.w X.K X.mg X.base CX k f fd ps sp) (room : Room k X.A) (gu : X.A.guards = some []) (hg : Gl X x) (m : X.mg x = some (.ref f)) (kp : PySem.W.keepIn X.K (.ref f) = true)
    (bi : Binds X.K fd ps ds) (dv : Vals dvs ds) (out : Passes CX X E) (ha : PA X (e :: es) t) (nd : (x == ("__debug__" : Str)) = false) (se : starEach (e :: es) X.env = (false, eval e X.env) :: starEach es X.env)
    (ns : (backTo pos (starEach es X.env)).any (·.1) = false) : PE X (.Call (.Name x p) (e :: es) [] pos) (tCall sp dvs E t) := by
  constructor
  intro pins s σ H Q I q
  refine wpAny_Call_Name_kw (ld_glob I hg m ?_ nd)
  refine PySem.W.callWith_K (h₀ := X.base) I.ok.mod.kin kp (thn (ha.run pos pins s σ H _ I q) ?_) se ns
  rintro us s1 ⟨vs, H1, I1, rv, q1⟩
  exact ⟨I1.kIn, run_gn G room gu bi dv out I1 rv q1⟩
theorem pe_gcall0 (G : GnOk X.prog X.w X.K X.mg X.base CX k f fd ps sp) (room : Room k X.A) (gu : X.A.guards = some []) (hg : Gl X x) (m : X.mg x = some (.ref f)) (kp : PySem.W.keepIn X.K (.ref f) = true)
    (bi : Binds X.K fd ps ds) (dv : Vals dvs ds) (out : Passes CX X E) (nd : (x == ("__debug__" : Str)) = false) : PE X (.Call (.Name x p) [] [] pos) (tCall sp dvs E tNil) := by
  constructor
  intro pins s σ H Q I q
  refine wpAny_Call_Name_kw (ld_glob I hg m ?_ nd)
  exact PySem.W.callWith_K0 I.kIn kp (run_gn (us := []) G room gu bi dv out I .nil q)
end

/-- a def by its body, no repr under way -/
theorem gfn_of {CX : CXT} {P : Program} {w : World} {K : PySem.W.Frag} {mg : Str → Option Value} {base : Heap} {k : Nat} {f : Addr} {nm qual : Str} {par : Arguments} {body : List Stmt} {scope : Scope} {dV kV doc pm cd ct oc : Value} {an od : Option Addr}
    {osl : Array (Option Value)} {N ps : List Str} {sp : Sp} (lk : K.lookup f = some ⟨oc, od, .func (PySem.W.fnOf nm qual par body scope dV kV doc pm an cd ct), osl⟩) (hcd : PySem.W.codeIn K cd qual = true) (S : FnScope N ps scope)
    (many : ∀ {vs H Q E}, sp vs H Q E → vs.length = ps.length)
    (run : ∀ (A : Around) (outer : List Env) (s : Shared) (H : Hp) (vs : List V) (Q : VK) (E : XK), Room k (A.deeper (envOfC qual scope s.heap.objs.size f cd)) → (A.deeper (envOfC qual scope s.heap.objs.size f cd)).guards = some [] → sp vs H Q E →
      ∃ t, PSs (cxOf CX P w K mg base N qual scope f cd A outer s H E) body t ∧ t { nx := fun _ H' => Q .non H', rt := Q } (L2.start N vs) H) :
    GnOk P w K mg base CX (k + 1) f (PySem.W.fnOf nm qual par body scope dV kV doc pm an cd ct) ps sp := by
  constructor
  · exact many
  intro A outer s H args us vs Q E room gu e0 hb rv hs
  have cnt := many hs
  have keep : ∀ b o, base.get? b = some o → s.heap.get? b = some o := fun b o z => (e0.bs b o z).1
  have KX : K.In s.heap := e0.mod.kin.keeps keep
  have par : ∀ y ∈ ps.zip us, scope.names.lookup y.1 = some .local ∨ (scope.names.lookup y.1 = some .cell ∧ ((cellsFrom (s.heap.objs.size + 1) scope.names []).lookup y.1).isSome = true) := by
    rintro ⟨n, v⟩ hy
    cases S.par n (List.of_mem_zip hy).1 with
    | inl z => exact .inl z
    | inr z => exact .inr ⟨z, PySem.W.cellsFrom_some _ _ _ (.inl z)⟩
  refine codeAny_call_function room.depth (KX _ _ lk) rfl S.co S.gen rfl (PySem.W.codeRec_of KX hcd) (hb _ _ _ _ ?_)
  refine wpAny_newFunctionEnv_cells S.kind par ?_
  rintro env rfl s1 x
  refine ⟨(e0.mod.nolimit.keeps keep).keeps x.toInCall.keep, codeAny_func ?_⟩
  obtain ⟨t, ht, hq⟩ := run A outer s H vs Q E (room.deeper _) gu hs
  have I : Inv (cxOf CX P w K mg base N qual scope f cd A outer s H E) [] (L2.start N vs) H s1 := inv_start S room.hd e0 cnt rv x
  refine wpAny_mono (ht.run [] s1 (L2.start N vs) H _ I hq) ?_ fun _ _ z => z
  intro fl s' z
  match fl, z with
  | .ret u, ⟨v, σ', H', J, r, q⟩ => exact ⟨v, H', J.os, J.bare, J.base, J.hok, r, q⟩
  | .next, ⟨σ', H', J, q⟩ => exact ⟨V.non, H', J.os, J.bare, J.base, J.hok, rfl, q⟩
  | .brk, ⟨_, _, _, q⟩ => exact (show False from q).elim
  | .cont, ⟨_, _, _, q⟩ => exact (show False from q).elim

/-- the law's call over the heap behind the top -/
theorem glaw_call {CXa : CXT} {P : Program} {w : World} {K : PySem.W.Frag} {mg mb : Str → Option Value} {k : Nat} {fa a : Addr} {fd : FuncData} {x : Str} {sp : Sp} {s0 : Shared} {vs : List Value} {ns : List Int}
    (KX : K.In s0.heap) (hns : s0.heap.Ns mainGlobals mg) (hb : s0.heap.Ns builtinsNs mb) (hbb : ∀ x : Str, x ≠ "__name__" → mb x = bootBuiltins x) (hlim : s0.heap.NoLimit) (hg : s0.gens = #[])
    (ha : s0.heap.get? a = some { cls := .type "list", data := .seq vs.toArray }) (hi : IntsAre vs ns) (hl : ns.length ≤ sizeLine) (room : Room k callerA)
    (G : ∀ base : Heap, K.In base → base.Ns mainGlobals mg → GnOk P w K mg base CXa k fa fd [x] sp) (nothing : ∀ outer H s e s', ¬ CXa outer H s (fun _ _ _ => False) e s') (bind1 : ∀ (s : Shared) (u : Value), BindsTo s fd ⟨[u], []⟩ [(x, u)])
    (due : ∀ H : Hp, SqL K H a (ns.map V.int) → sp [.ref a] H (fun v _ => v = .bl true) fun _ _ _ => False) :
    codeAny (model P w) callerA (.call (.ref fa) ⟨[.ref a], []⟩) (fun r s' => r = .ok (.ret (.bool true)) ∧ OldK s0.heap s'.heap ∧ s'.os = s0.os ∧ AllBare s'.gens) s0 := by
  have rv := vals_ints hi
  have many := hi.length
  have main : ∀ H : Hp, (∀ b, H b = none ∨ ∃ o xs, H b = some (.frz o (.lst xs))) → SqL K H a (ns.map V.int) → HOk P w H s0.heap → (∀ b, H b ≠ none → b = a) → (H a ≠ none → K.lookup a = none) →
      codeAny (model P w) callerA (.call (.ref fa) ⟨[.ref a], []⟩) (fun r s' => r = .ok (.ret (.bool true)) ∧ OldK s0.heap s'.heap ∧ s'.os = s0.os ∧ AllBare s'.gens) s0 := by
    intro H only hS ok hA hK
    have isA : ∀ {b : Addr} {z : HO}, H b = some z → b = a := fun {b z} q => hA b (by rw [q]; exact fun y => by cases y)
    have plain : ∀ {b : Addr} {o : Obj} {es : Array DictEntry} {ep : Nat}, s0.heap.get? b = some o → o.data = .dict es ep → H b = none := by
      intro b o es ep e d
      cases q : H b with
      | none => rfl
      | some u =>
        obtain rfl := isA q
        rw [ha] at e
        cases e
        exact nomatch (show Data.seq vs.toArray _ = Data.dict es ep from d)
    have ns' : ∀ {b : Addr} {m : Str → Option Value}, s0.heap.Ns b m → (hidT s0.heap H).Ns b m := by
      rintro b m ⟨o, es, ep, e, d, r⟩
      exact ⟨o, es, ep, hidT_get e (plain e d), d, r⟩
    have Kb : K.In (hidT s0.heap H) := by
      intro b o e
      refine hidT_get (KX b o e) ?_
      cases q : H b with
      | none => rfl
      | some u =>
        obtain rfl := isA q
        rw [hK (by rw [q]; exact fun y => by cases y)] at e
        cases e
    have e0 : Env0 P w K mg (hidT s0.heap H) callerA [] s0 H := by
      refine ⟨rfl, ⟨Kb, ns' hns, ⟨mb, ns' hb, hbb⟩, ?_⟩, fun b o e => of_hidT e, Nat.le_of_eq (hidT_size _ _), trivial, ?_, ok, .of_eq hg⟩
      · obtain ⟨mc, h1, h2⟩ := hlim
        exact ⟨mc, ns' h1, h2⟩
      · intro b hb
        exact absurd (show b ∈ ([] : List Addr) from hb) (by simp)
    refine codeAny_mono ((G _ Kb (ns' hns)).go (args := ⟨[.ref a], []⟩) (us := [.ref a]) (vs := [V.ref a]) room rfl e0 (bind1 s0 (.ref a)) (.cons rfl .nil) (due H hS)) ?_
    intro r s' z
    match r, z with
    | .error _, z => exact absurd z (nothing _ _ _ _ _)
    | .ok .next, z => exact z.elim
    | .ok .brk, z => exact z.elim
    | .ok .cont, z => exact z.elim
    | .ok (.ret u), ⟨v, H', os, bare, un, ok', r', q⟩ =>
      obtain rfl : v = .bl true := q
      obtain rfl : u = Value.bool true := r'
      refine ⟨rfl, OldK.of_keep ?_, os, bare⟩
      intro b o e
      cases q : H b with
      | none => exact un.keep b o e q (fun z => absurd (show b ∈ ([] : List Addr) from z) (by simp)) (by simp)
      | some u =>
        rcases only b with z | ⟨ob, xs, z⟩
        · rw [q] at z
          cases z
        · have e1 := (ok b _ z).1
          have e2 := (ok' b _ (un.frzs b ob _ z)).1
          rw [e] at e1
          cases e1
          exact e2
  cases hk : K.lookup a with
  | some o =>
    have e := KX a o hk
    rw [ha] at e
    cases e
    exact main (fun _ => none) (fun _ => .inl rfl) (.inr ⟨_, vs.toArray, _, hk, rfl, rfl, rfl, by rw [List.size_toArray, many]; exact hl, by simpa using rv⟩) (fun b u z => nomatch z) (fun b z => absurd rfl z) fun z => absurd rfl z
  | none =>
    have at1 : ∀ {b : Addr}, b = a → (if b = a then some (HO.frz { cls := .type "list", data := .seq vs.toArray } (.lst (ns.map V.int))) else none) = some (.frz { cls := .type "list", data := .seq vs.toArray } (.lst (ns.map V.int))) := fun h => if_pos h
    refine main (fun b => if b = a then some (.frz { cls := .type "list", data := .seq vs.toArray } (.lst (ns.map V.int))) else none) ?_ (.inl (.inr ⟨_, at1 rfl⟩)) ?_ ?_ fun _ => hk
    · intro b
      by_cases h : b = a
      · exact .inr ⟨_, _, at1 h⟩
      · exact .inl (if_neg h)
    · intro b u z
      by_cases h : b = a
      · have z' := (at1 h).symm.trans z
        cases z'
        subst h
        exact ⟨ha, by rw [List.length_map]; exact hl, vs, _, rv, ha⟩
      · have z' := (if_neg h).symm.trans z
        cases z'
    · intro b z
      by_cases h : b = a
      · exact h
      · exact absurd (if_neg h) z
theorem gwalk_of {l : PySem.W.OpenLaw} {n k : Nat} {q : Program} {loose : List Str} {XP : (Str → Option Value) → Heap → Prop} {YP : World → Heap → Prop} {d : DefRec} {K : Params → PySem.W.Frag} {sp : World → Sp} {x : Str}
    (most : l.most = some n) (le : n ≤ sizeLine) (dfl : d.params.defaults = []) (room : Room k callerA)
    (inY : ∀ (w : World) (h : Heap), YP w h → (K w.params).In h)
    (G : ∀ (w : World) (mg : Str → Option Value) (fa : Addr) (h : Heap), (K w.params).In h → h.Ns mainGlobals mg → mg d.name = some (.ref fa) →
      ∃ fd : FuncData, (∀ (s : Shared) (u : Value), BindsTo s fd ⟨[u], []⟩ [(x, u)]) ∧
        ∀ base : Heap, (K w.params).In base → base.Ns mainGlobals mg → GnOk l.prog w (K w.params) mg base (L2.CX l.prog w) k fa fd [x] (sp w))
    (due : ∀ (w : World) (H : Hp) (a : Addr) (ns : List Int), ns.length ≤ n → SqL (K w.params) H a (ns.map V.int) → sp w [.ref a] H (fun v _ => v = .bl true) fun _ _ _ => False) :
    PySem.W.WalkO q loose XP YP l.row.toRowW d [] (fun f vs => PySem.call f vs) := by
  refine Att.attach_call most dfl ?_
  intro w s0 s1 mg mb fa o pm cd doc a vs ns G0 Y ho hd hcd hmg hobj hints hlen hg
  have KX := inY w _ Y
  obtain ⟨fd, hb, hF⟩ := G w mg fa _ KX G0.T.g hmg
  exact glaw_call KX G0.T.g G0.T.b G0.T.builtins G0.T.nolimit hg hobj hints (Nat.le_trans hlen le) room hF (fun _ _ _ _ _ ⟨_, _, _, _, _, _, _, _, _, _, _, _, z⟩ => z) hb fun H hS => due w H a ns hlen hS
/-! ### defs and calls -/
/-- what is wished where the class under x is raised with a value -/
abbrev DXK := Str → DL.D → Mp → Prop
abbrev DSp := List DL.D → Mp → DK → DXK → Prop
/-- an exception over data: of the class that stands under x, its value v -/
structure ExR (K : PySem.W.Frag) (F : Hp) (x : Str) (v : DL.D) (cls : Value) (d : Option Addr) : Prop where
  ex : ∃ (C dx : Addr) (u : V), PySem.W.nsIn K mainGlobals x = some (some (.ref C)) ∧ cls = .ref C ∧ d = some dx ∧ F dx = some (.xd [("value", u)]) ∧ Rp K F u v
/-- a promise over data, as one over the heap -/
def lift (K : PySem.W.Frag) (T : TT8) (sp : DSp) : Sp := fun vs H Q0 E0 => ∃ ds F M Q E, RpAll K F vs ds ∧ RelR K F M H ∧ LamX.Tabs T H ∧ sp ds M Q E ∧
  (∀ v d F' M' H', StpR K T F M H F' M' H' → Rp K F' v d → Q d M' → Q0 v H') ∧
  ∀ x v cls d F' M' H', StpR K T F M H F' M' H' → ExR K F' x v cls d → E x v M' → E0 cls d H'
/-- a def that is to be called by its name x: its promise over data; es: the defaults of its last parameters -/
structure Cal (P : Program) (w : World) (K : PySem.W.Frag) (T : TT8) (mg : Str → Option Value) (base : Heap) (k : Nat) (x : Str) (es : List DL.D) (sp : DSp) : Prop where
  ex : ∃ (f : Addr) (fd : FuncData) (ps : List Str) (dvs : List V) (us : List Value), GnOk P w K mg base (L2.CX P w) k f fd ps (lift K T sp) ∧ mg x = some (.ref f) ∧ PySem.W.keepIn K (.ref f) = true ∧ Binds K fd ps us ∧ Vals dvs us ∧ ∀ F, RpAll K F dvs es
def dCallX (sp : DSp) (es : List DL.D) (t : DTA) (E : DXK) : DTE := fun ρ M Q => t ρ M fun ds M1 => sp (ds ++ es) M1 Q E
def dCall (sp : DSp) (es : List DL.D) (t : DTA) : DTE := dCallX sp es t fun _ _ _ => False
theorem Cal.mono {P : Program} {w : World} {K : PySem.W.Frag} {T : TT8} {mg : Str → Option Value} {base : Heap} {j k : Nat} {x : Str} {es : List DL.D} {sp : DSp} (C : Cal P w K T mg base j x es sp) (h : j ≤ k) : Cal P w K T mg base k x es sp := by
  obtain ⟨f, fd, ps, dvs, us, a, b⟩ := C.ex
  exact ⟨f, fd, ps, dvs, us, a.up h, b⟩
/-- a body in sight of its tables, from which E may be raised -/
structure XG (X : Cx) (Y : KJ X.K) (E : DXK) : Prop where
  tabs : ∀ F M H, Y.J F M H → LamX.Tabs Y.T H
  ex : ∃ W, Takes X W ∧ ∀ σ F M H x v cls d, Rel Y F M H → ExR X.K F x v cls d → E x v M → W cls d σ H
/-- a body in sight of its tables -/
structure XT {K : PySem.W.Frag} (Y : KJ K) : Prop where
  tabs : ∀ F M H, Y.J F M H → LamX.Tabs Y.T H
theorem XG.xt {X : Cx} {Y : KJ X.K} {E : DXK} (g : XG X Y E) : XT Y := ⟨g.tabs⟩
theorem no_takes {X : Cx} : Takes X (fun _ _ _ _ => False) := fun _ _ x => by
  obtain ⟨_, _, _, _, _, _, _, _, _, _, _, _, _, _, _, _, z⟩ := x
  exact z.elim
theorem XT.none {X : Cx} {Y : KJ X.K} (t : XT Y) : XG X Y fun _ _ _ => False := ⟨t.tabs, _, no_takes, fun _ _ _ _ _ _ _ _ _ _ z => z⟩
section
variable {X : Cx} {Y : KJ X.K} {pos p : Pos}
/-- the exceptions' wish, over the heap -/
def xw (Y : KJ X.K) (E : DXK) : XK := fun cls d H => ∃ F M x v, Rel Y F M H ∧ ExR X.K F x v cls d ∧ E x v M
theorem XG.out {E : DXK} (g : XG X Y E) : Passes (L2.CX X.prog X.w) X (xw Y E) := by
  obtain ⟨W, tk, h⟩ := g.ex
  exact passes_call tk fun cls d σ H ⟨F, M, x, v, r, e, z⟩ => h σ F M H x v cls d r e z
theorem can_call {sp : DSp} {es : List DL.D} {dvs : List V} {t : DTA} {σ : St} {H : Hp} {Q0 : VK} {E : DXK} (tb : XT Y) (rd : ∀ F, RpAll X.K F dvs es) (h : canE Y (dCallX sp es t E) σ H Q0) : tCall (lift X.K Y.T sp) dvs (xw Y E) (canA Y t) σ H Q0 := by
  obtain ⟨F, M, ρ, Q, rs, r, q, k⟩ := h
  refine ⟨F, M, ρ, _, rs, r, q, fun vs ds F1 M1 H1 s1 rp q1 => ?_⟩
  refine ⟨ds ++ es, F1, M1, Q, E, rp.append (rd F1), s1.rel.r, tb.tabs _ _ _ s1.rel.j, q1, fun v d F2 M2 H2 s2 => k v d F2 M2 H2 (s1.trans (Stp.of s1.rel s2)), fun x v cls d F2 M2 H2 s2 e z => ?_⟩
  exact ⟨F2, M2, x, v, (Stp.of s1.rel s2).rel, e, z⟩
theorem de_callX {k : Nat} {x : Str} {es : List DL.D} {sp : DSp} {e : Expr} {args : List Expr} {t : DTA} {E : DXK} (C : Cal X.prog X.w X.K Y.T X.mg X.base k x es sp) (hr : Room k X.A) (gu : X.A.guards = some []) (g : XG X Y E) (ha : DA X Y (e :: args) t) (hg : Gl X x := by rfl)
    (hd : (x == ("__debug__" : Str)) = false := by decide) (he : starEach (e :: args) X.env = (false, eval e X.env) :: starEach args X.env := by rfl) (hpl : (backTo pos (starEach args X.env)).any (·.1) = false := by rfl) :
    DE X Y (.Call (.Name x p) (e :: args) [] pos) (dCallX sp es t E) := by
  obtain ⟨f, fd, ps, dvs, us, G, m, kp, b, vd, rd⟩ := C.ex
  exact PE.weak (pe_gcall G hr gu hg m kp b vd g.out ha hd he hpl) fun _ _ _ q => can_call g.xt rd q
theorem de_call {k : Nat} {x : Str} {es : List DL.D} {sp : DSp} {e : Expr} {args : List Expr} {t : DTA} (C : Cal X.prog X.w X.K Y.T X.mg X.base k x es sp) (hr : Room k X.A) (gu : X.A.guards = some []) (g : XT Y) (ha : DA X Y (e :: args) t) (hg : Gl X x := by rfl)
    (hd : (x == ("__debug__" : Str)) = false := by decide) (he : starEach (e :: args) X.env = (false, eval e X.env) :: starEach args X.env := by rfl) (hpl : (backTo pos (starEach args X.env)).any (·.1) = false := by rfl) :
    DE X Y (.Call (.Name x p) (e :: args) [] pos) (dCall sp es t) := de_callX C hr gu g.none ha hg hd he hpl
theorem de_call0 {k : Nat} {x : Str} {es : List DL.D} {sp : DSp} (C : Cal X.prog X.w X.K Y.T X.mg X.base k x es sp) (hr : Room k X.A) (gu : X.A.guards = some []) (g : XT Y) (hg : Gl X x := by rfl) (hd : (x == ("__debug__" : Str)) = false := by decide) : DE X Y (.Call (.Name x p) [] [] pos) (dCall sp es dNil) := by
  obtain ⟨f, fd, ps, dvs, us, G, m, kp, b, vd, rd⟩ := C.ex
  refine PE.weak (pe_gcall0 G hr gu hg m kp b vd g.none.out hd) fun σ H Q0 q => ?_
  obtain ⟨F, M, ρ, Q, rs, r, q, k⟩ := q
  exact ⟨es, F, M, Q, _, rd F, r.r, g.tabs _ _ _ r.j, q, fun v d F2 M2 H2 s2 => k v d F2 M2 H2 (Stp.of r s2), fun _ _ _ _ _ _ _ _ _ z => z.elim⟩
end
def dstart (N : List Str) (ds : List DL.D) : Rho := ds.map some ++ List.replicate (N.length - ds.length) none
theorem relS_start {K : PySem.W.Frag} {F : Hp} {N : List Str} {vs : List V} {ds : List DL.D} (h : RpAll K F vs ds) : RelS K F (L2.start N vs) (dstart N ds) := by
  refine ⟨?_, fun i d q => ?_⟩
  · unfold L2.start dstart; rw [List.length_append, List.length_append, List.length_map, List.length_map, List.length_replicate, List.length_replicate, h.length]
  · unfold dstart at q
    unfold L2.start
    by_cases hl : i < ds.length
    · rw [List.getElem?_append_left (by rw [List.length_map]; exact hl), List.getElem?_map] at q
      rw [List.getElem?_append_left (by rw [List.length_map, h.length]; exact hl), List.getElem?_map]
      cases e : ds[i]? with
      | none => rw [e] at q; cases q
      | some d' =>
        rw [e] at q; cases q
        obtain ⟨v, e1, r⟩ := h.get e
        exact ⟨v, by rw [e1]; rfl, r⟩
    · rw [List.getElem?_append_right (by rw [List.length_map]; omega), List.getElem?_replicate] at q
      split at q <;> cases q
/-- a def of the text as it stands behind the top, with how its parameters are bound -/
structure Has (K : PySem.W.Frag) (mg : Str → Option Value) (x qual : Str) (st : Stmt) (ps : List Str) (es : List DL.D) : Prop where
  ex : ∃ (f : Addr) (oc : Value) (od : Option Addr) (dV kV doc pm : Value) (an : Option Addr) (cdv ct : Value) (osl : Array (Option Value)) (us : List Value) (dvs : List V),
    K.lookup f = some ⟨oc, od, .func (PySem.W.fnOf x qual (defArgs st) (defBody st) (defScope st) dV kV doc pm an cdv ct), osl⟩ ∧ PySem.W.codeIn K cdv qual = true ∧ PySem.W.keepIn K (.ref f) = true ∧ mg x = some (.ref f) ∧
      Binds K (PySem.W.fnOf x qual (defArgs st) (defBody st) (defScope st) dV kV doc pm an cdv ct) ps us ∧ Vals dvs us ∧ ∀ F, RpAll K F dvs es
/-- a state behind the entry of a def -/
def fromE (K : PySem.W.Frag) (T : TT8) (F0 : Hp) (M0 : Mp) (H0 : Hp) : KJ K where
  T := T
  J := fun F M H => StpR K T F0 M0 H0 F M H ∧ LamX.Tabs T H
  cl := fun ⟨a, t⟩ s => ⟨a.trans s, s.tab t⟩
/-- a body is by rules, from any state on, wherever its exceptions go -/
def DBody (P : Program) (w : World) (K : PySem.W.Frag) (T : TT8) (mg : Str → Option Value) (base : Heap) (k : Nat) (N : List Str) (qual : Str) (st : Stmt) (f : Addr) (t : DXK → DTS) : Prop :=
  ∀ (cdv : Value) (A : Around) (outer : List Env) (s : Shared) (H : Hp) (E : XK) (Y : KJ K) (E1 : DXK), Y.T = T → Room k (A.deeper (envOfC qual (defScope st) s.heap.objs.size f cdv)) → (A.deeper (envOfC qual (defScope st) s.heap.objs.size f cdv)).guards = some [] →
    XG (cxOf (L2.CX P w) P w K mg base N qual (defScope st) f cdv A outer s H E) Y E1 → DSs (cxOf (L2.CX P w) P w K mg base N qual (defScope st) f cdv A outer s H E) Y (defBody st) (t E1)
/-- THE RULE for a def over data: its body by rules, and its reading -/
theorem dgn {P : Program} {w : World} {K : PySem.W.Frag} {T : TT8} {mg : Str → Option Value} {base : Heap} {x qual : Str} {st : Stmt} {N ps : List Str} {k : Nat} {sp : DSp} {f : Addr} {oc : Value} {od : Option Addr} {dV kV doc pm : Value} {an : Option Addr} {cd ct : Value} {osl : Array (Option Value)}
    (lk : K.lookup f = some ⟨oc, od, .func (PySem.W.fnOf x qual (defArgs st) (defBody st) (defScope st) dV kV doc pm an cd ct), osl⟩) (hcd : PySem.W.codeIn K cd qual = true) (S : FnScope N ps (defScope st)) {t : DXK → DTS}
    (body : DBody P w K T mg base k N qual st f t)
    (read : ∀ ds M Q E, sp ds M Q E → ds.length = ps.length ∧ t E { nx := fun _ M' => Q .non M', rt := Q } (dstart N ds) M) :
    GnOk P w K mg base (L2.CX P w) (k + 1) f (PySem.W.fnOf x qual (defArgs st) (defBody st) (defScope st) dV kV doc pm an cd ct) ps (lift K T sp) := by
  refine gfn_of lk hcd S ?_ ?_
  · rintro vs H Q E0 ⟨ds, F, M, Q, E, rp, _, _, q, _⟩
    rw [rp.length]; exact (read ds M Q E q).1
  · rintro A outer s H vs Q0 E0 room gu ⟨ds, F, M, Q, E, rp, r, tb, q, kk, ke⟩
    have g : XG (cxOf (L2.CX P w) P w K mg base N qual (defScope st) f cd A outer s H E0) (fromE K T F M H) E := by
      refine ⟨fun F M H j => j.2, fun cls d _ H => E0 cls d H, takes_of rfl rfl rfl rfl, fun σ F' M' H' x v cls d R e z => ke x v cls d F' M' H' R.j.1 e z⟩
    have B := body cd A outer s H E0 (fromE K T F M H) E rfl room gu g
    have s0 : Rel (fromE K T F M H) F M H := ⟨r, StpR.refl r, tb⟩
    refine ⟨_, B, F, M, dstart N ds, _, relS_start rp, s0, (read ds M Q E q).2, ⟨fun _ _ F' M' H' s' _ q' => kk .non .non F' M' H' s'.s .non q', fun v d F' M' H' s' rp' q' => kk v d F' M' H' s'.s rp' q', fun _ _ _ _ _ _ _ z => z.elim, fun _ _ _ _ _ _ _ z => z.elim⟩⟩
end DL

/-! DL3: operators, comparisons, items, slices, built-ins and methods over data. -/
namespace DL
open PySem PySem.Spec L2
open PyProof.Rows hiding St

/-! ### two places -/
abbrev RD2 := DL.D → DL.D → Mp → DK → Prop
def can2 {K : PySem.W.Frag} (Y : KJ K) (r : RD2) : R2 := fun x y H Q0 => ∃ F M d e Q, Rp K F x d ∧ Rp K F y e ∧ Rel Y F M H ∧ r d e M Q ∧
  ∀ v z F' M' H', Stp Y F M H F' M' H' → Rp K F' v z → Q z M' → Q0 v H'
abbrev OpD (X : Cx) (Y : KJ X.K) (f : Value → Value → Sem Value) (r : RD2) : Prop := OpR X f (can2 Y r)
def dOp (r : RD2) (t u : DTE) : DTE := fun ρ M Q => t ρ M fun x M1 => u ρ M1 fun y M2 => r x y M2 Q
section
variable {X : Cx} {Y : KJ X.K} {pos : Pos} {a b c : Expr} {t u v : DTE}
theorem can_op {K : PySem.W.Frag} {Y : KJ K} {r : RD2} {σ : St} {H : Hp} {Q0 : VK} (h : canE Y (dOp r t u) σ H Q0) : tOp (can2 Y r) (canE Y t) (canE Y u) σ H Q0 := by
  obtain ⟨F, M, ρ, Q, rs, rl, q, k⟩ := h
  refine ⟨F, M, ρ, _, rs, rl, q, fun x d F1 M1 H1 s1 rp1 q1 => ?_⟩
  refine ⟨F1, M1, ρ, _, rs.mono s1.same, s1.rel, q1, fun y e F2 M2 H2 s2 rp2 q2 => ?_⟩
  exact ⟨F2, M2, d, e, Q, rp1.mono s2.same, rp2, s2.rel, q2, fun v z F3 M3 H3 s3 => k v z F3 M3 H3 ((s1.trans s2).trans s3)⟩
theorem de_op {op : Operator} {r : RD2} (ho : OpD X Y (binaryOp op) r) (ha : DE X Y a t) (hb : DE X Y b u) : DE X Y (.BinOp a op b pos) (dOp r t u) :=
  PE.weak (pe_op ho ha hb) fun _ _ _ q => can_op q
theorem de_cmp {op : CmpOp} {r : RD2} (ho : OpD X Y (compareOp op) r) (ha : DE X Y a t) (hb : DE X Y b u) (hm : behindInMarks op b = false) : DE X Y (.Compare a [op] [b] pos) (dOp r t u) :=
  PE.weak (pe_cmpR ho ha hb hm) fun _ _ _ q => can_op q
theorem dt_cmp {op : CmpOp} {r : RD2} (ho : OpD X Y (compareOp op) r) (ha : DE X Y a t) (hb : DE X Y b u) (hm : behindInMarks op b = false) : DT X Y (.Compare a [op] [b] pos) (dB (dOp r t u)) := by
  refine PT.weak (pt_cmpR ho ha hb hm) ?_
  rintro σ H Q0 ⟨F, M, ρ, Q, rs, rl, q, k⟩
  refine can_op ⟨F, M, ρ, _, rs, rl, q, fun v d F1 M1 H1 s1 rp ⟨b, e, q1⟩ => ?_⟩
  subst e
  cases rp
  exact ⟨b, rfl, k b F1 M1 H1 s1 q1⟩
def dChain (r r' : RD2) (t u v : DTE) : DTE := fun ρ M Q => t ρ M fun x M1 => u ρ M1 fun y M2 => r x y M2 fun z M3 => ∃ k, z = .bl k ∧
  (if k = true then v ρ M3 fun w M4 => r' y w M4 Q else Q (.bl false) M3)
theorem can_chain {K : PySem.W.Frag} {Y : KJ K} {r r' : RD2} {σ : St} {H : Hp} {Q0 : VK} (h : canE Y (dChain r r' t u v) σ H Q0) : tChain (can2 Y r) (can2 Y r') (canE Y t) (canE Y u) (canE Y v) σ H Q0 := by
  obtain ⟨F, M, ρ, Q, rs, rl, q, k⟩ := h
  refine ⟨F, M, ρ, _, rs, rl, q, fun x d F1 M1 H1 s1 rp1 q1 => ?_⟩
  refine ⟨F1, M1, ρ, _, rs.mono s1.same, s1.rel, q1, fun y e F2 M2 H2 s2 rp2 q2 => ?_⟩
  have s12 := s1.trans s2
  refine ⟨F2, M2, d, e, _, rp1.mono s2.same, rp2, s2.rel, q2, fun vv z F3 M3 H3 s3 rp3 ⟨kk, ez, q3⟩ => ?_⟩
  have s13 := s12.trans s3
  subst ez
  cases rp3
  refine ⟨kk, rfl, ?_⟩
  cases kk with
  | false => exact k _ _ F3 M3 H3 s13 (.bl false) q3
  | true =>
    refine iteT ⟨F3, M3, ρ, _, rs.mono s13.same, s3.rel, q3, fun w dw F4 M4 H4 s4 rp4 q4 => ?_⟩
    exact ⟨F4, M4, e, dw, Q, (rp2.mono s3.same).mono s4.same, rp4, s4.rel, q4, fun v z F5 M5 H5 s5 => k v z F5 M5 H5 ((s13.trans s4).trans s5)⟩
theorem de_chain {op op' : CmpOp} {r r' : RD2} (ho : OpD X Y (compareOp op) r) (ho' : OpD X Y (compareOp op') r') (ha : DE X Y a t) (hb : DE X Y b u) (hc : DE X Y c v)
    (hm : lastMarks [op, op'] [b, c] = false := by with_unfolding_all rfl) : DE X Y (.Compare a [op, op'] [b, c] pos) (dChain r r' t u v) :=
  PE.weak (pe_chain ho ho' ha hb hc hm) fun _ _ _ q => can_chain q
theorem dt_chain {op op' : CmpOp} {r r' : RD2} (ho : OpD X Y (compareOp op) r) (ho' : OpD X Y (compareOp op') r') (ha : DE X Y a t) (hb : DE X Y b u) (hc : DE X Y c v)
    (hm : lastMarks [op, op'] [b, c] = false := by with_unfolding_all rfl) : DT X Y (.Compare a [op, op'] [b, c] pos) (dB (dChain r r' t u v)) := by
  refine PT.weak (pt_chain ho ho' ha hb hc hm) ?_
  rintro σ H Q0 ⟨F, M, ρ, Q, rs, rl, q, k⟩
  refine can_chain ⟨F, M, ρ, _, rs, rl, q, fun v d F1 M1 H1 s1 rp ⟨b, e, q1⟩ => ?_⟩
  subst e
  cases rp
  exact ⟨b, rfl, k b F1 M1 H1 s1 q1⟩
end

/-! ### the items of a list, wherever it stands -/
def mol : Option MO → Option (List DL.D)
  | some (.lst xs) => some xs
  | _ => none
theorem mol_some {o : Option MO} {ds : List DL.D} (h : mol o = some ds) : o = some (.lst ds) := by
  cases o with
  | none => cases h
  | some m => cases m with
    | lst xs => cases h; rfl
    | obj x fs => cases h
    | dic kvs => cases h
def lstOf (M : Mp) : DL.D → Option (List DL.D)
  | .lst xs => some xs
  | .slst xs => some xs
  | .ref a => mol (M a)
  | _ => none
/-- the same, without the lists that the module or the caller holds -/
def lstIn (M : Mp) : DL.D → Option (List DL.D)
  | .lst xs => some xs
  | .ref a => mol (M a)
  | _ => none
section
variable {K : PySem.W.Frag} {Y : KJ K} {F : Hp} {M : Mp} {H : Hp}
theorem lstOf_rp {v : V} {d : DL.D} {ds : List DL.D} (R : Rel Y F M H) (r : Rp K F v d) (h : lstOf M d = some ds) : ∃ a xs, v = .ref a ∧ SqL K H a xs ∧ RpAll K F xs ds := by
  cases r with
  | lst e ra => cases h; exact ⟨_, _, rfl, SqL.of (R.sub _ _ e), ra⟩
  | slst e ra => cases h; exact ⟨_, _, rfl, R.sub.seq e, ra⟩
  | ref a =>
    obtain ⟨xs, e1, ra⟩ := R.lst (mol_some (show mol (M a) = some ds from h))
    exact ⟨a, xs, rfl, SqL.of e1, ra⟩
  | _ => cases h
theorem lstIn_rp {v : V} {d : DL.D} {ds : List DL.D} (R : Rel Y F M H) (r : Rp K F v d) (h : lstIn M d = some ds) : ∃ a xs, v = .ref a ∧ H a = some (.lst xs) ∧ RpAll K F xs ds := by
  cases r with
  | lst e ra => cases h; exact ⟨_, _, rfl, R.sub _ _ e, ra⟩
  | ref a =>
    obtain ⟨xs, e1, ra⟩ := R.lst (mol_some (show mol (M a) = some ds from h))
    exact ⟨a, xs, rfl, e1, ra⟩
  | _ => cases h
theorem lstOf_ref {a : Addr} {ds : List DL.D} (h : M a = some (.lst ds)) : lstOf M (.ref a) = some ds := by show mol (M a) = some ds; rw [h]; rfl
theorem lstIn_ref {a : Addr} {ds : List DL.D} (h : M a = some (.lst ds)) : lstIn M (.ref a) = some ds := by show mol (M a) = some ds; rw [h]; rfl
end

/-! ### arithmetic, joining -/
def rInt (C : Int → Int → Prop) (g : Int → Int → DL.D) : RD2 := fun x y M Q => ∃ i j, x = .int i ∧ y = .int j ∧ C i j ∧ Q (g i j) M
def rAddD (fz : Bool) : RD2
  | .int i, .int j, M, Q => Q (.int (i + j)) M
  | .str x, .str y, M, Q => x.length + y.length ≤ sizeLine ∧ Q (.str (x ++ y)) M
  | .tup xs, .tup ys, M, Q => xs.length + ys.length ≤ sizeLine ∧ Q (.tup (xs ++ ys)) M
  | x, y, M, Q => ∃ xs ys, lstIn M x = some xs ∧ lstIn M y = some ys ∧ xs.length + ys.length ≤ sizeLine ∧ newL fz (xs ++ ys) M Q
section
variable {X : Cx} {Y : KJ X.K}
theorem op_int {f : Value → Value → Sem Value} {C : Int → Int → Prop} {g : Int → Int → V} {g' : Int → Int → DL.D} (h : OpR X f (rI C g)) (hg : ∀ F i j, Rp X.K F (g i j) (g' i j)) : OpD X Y f (rInt C g') := by
  intro pins s σ H x y v u Q0 I rx ry ⟨F, M, d, e, Q, r1, r2, rl, ⟨i, j, e1, e2, c, q⟩, k⟩
  subst e1 e2
  cases r1
  cases r2
  exact h pins s σ H _ _ v u Q0 I rx ry ⟨i, j, rfl, rfl, c, k _ _ F M H (Stp.refl rl) (hg F i j) q⟩
theorem op_int0 {f : Value → Value → Sem Value} {g : Int → Int → V} {g' : Int → Int → DL.D} (h : OpR X f (rI0 g)) (hg : ∀ F i j, Rp X.K F (g i j) (g' i j)) : OpD X Y f (rInt (fun _ _ => True) g') := by
  intro pins s σ H x y v u Q0 I rx ry ⟨F, M, d, e, Q, r1, r2, rl, ⟨i, j, e1, e2, _, q⟩, k⟩
  subst e1 e2
  cases r1
  cases r2
  exact h pins s σ H _ _ v u Q0 I rx ry ⟨i, j, rfl, rfl, k _ _ F M H (Stp.refl rl) (hg F i j) q⟩
theorem od_add (fz : Bool) : OpD X Y (binaryOp .Add) (rAddD fz) := by
  intro pins s σ H x y v u Q0 I rx ry ⟨F, M, d, e, Q, r1, r2, rl, q, k⟩
  have lists : ∀ xs ys, lstIn M d = some xs → lstIn M e = some ys → xs.length + ys.length ≤ sizeLine → newL fz (xs ++ ys) M Q → wpAny (model X.prog X.w) X.A (binaryOp .Add v u) (EP X pins σ Q0) X.xe s := by
    intro xs ys e1 e2 hz q
    obtain ⟨a, vs, rfl, h1, ra⟩ := lstIn_rp rl r1 e1
    obtain ⟨b, ws, rfl, h2, rb⟩ := lstIn_rp rl r2 e2
    exact op_cat pins s σ H _ _ v u Q0 I rx ry ⟨a, b, vs, ws, rfl, rfl, h1, h2, by rw [ra.length, rb.length]; exact hz, fun p hp => newL_ok rl (ra.append rb) q k p hp⟩
  unfold rAddD at q
  split at q
  · cases r1
    cases r2
    exact op_add pins s σ H _ _ v u Q0 I rx ry ⟨_, _, rfl, rfl, k _ _ F M H (Stp.refl rl) (.int _) q⟩
  · cases r1
    cases r2
    exact op_add_str pins s σ H _ _ v u Q0 I rx ry ⟨_, _, rfl, rfl, q.1, k _ _ F M H (Stp.refl rl) (.str _) q.2⟩
  · cases r1 with
    | tup s1 ra =>
      cases r2 with
      | tup s2 rb =>
        refine op_catA pins s σ H _ _ v u Q0 I rx ry ⟨_, _, _, _, rfl, rfl, Same.tseq rl.sub s1, Same.tseq rl.sub s2, by rw [ra.length, rb.length]; exact q.1, fun e => ?_, fun _ e => ?_, fun _ _ p hp => newT_ok rl (ra.append rb) q.2 k p hp⟩
        · subst e
          cases ra
          exact k _ _ F M H (Stp.refl rl) (.tup s2 rb) q.2
        · subst e
          cases rb
          refine k _ _ F M H (Stp.refl rl) (.tup s1 ra) ?_
          have := q.2
          rwa [List.append_nil] at this
  · obtain ⟨xs, ys, e1, e2, hz, q⟩ := q
    exact lists xs ys e1 e2 hz q

theorem od_sub : OpD X Y (binaryOp .Sub) (rInt (fun _ _ => True) fun i j => .int (i - j)) := op_int0 op_sub fun _ _ _ => .int _
theorem od_mod : OpD X Y (binaryOp .Mod) (rInt (fun _ j => 0 < j) fun i j => .int (i % j)) := op_int op_mod fun _ _ _ => .int _
theorem od_fdiv : OpD X Y (binaryOp .FloorDiv) (rInt (fun _ j => 0 < j ∧ j.natAbs < 2 ^ 64) fun i j => .int (i / j)) := by
  intro pins s σ H x y v u Q0 I rx ry ⟨F, M, d, e, Q, r1, r2, rl, ⟨i, j, e1, e2, c, q⟩, k⟩
  exact op_int (C := CDivW) (g' := fun i j => .int (i / j)) op_fdivW (fun _ _ _ => .int _) pins s σ H x y v u Q0 I rx ry ⟨F, M, d, e, Q, r1, r2, rl, ⟨i, j, e1, e2, wide_div c.1 c.2 (by decide) (by decide), q⟩, k⟩
theorem od_pow : OpD X Y (binaryOp .Pow) (rInt (fun i j => 0 ≤ j ∧ j ≤ 1000000 ∧ i.natAbs < 2 ^ 64) fun i j => .int (i ^ j.toNat)) := op_int op_pow fun _ _ _ => .int _
/-- ** of great numbers -/
theorem op_powW : OpR X (binaryOp .Pow) (rI (fun i j => 0 ≤ j ∧ (Builtin.Int.intBits i : Int) * j ≤ 2 ^ 27) fun i j => .int (i ^ j.toNat)) := opI fun _ _ _ _ _ _ _ hc q => pow_int hc.1 hc.2 q
theorem od_powW : OpD X Y (binaryOp .Pow) (rInt (fun i j => 0 ≤ j ∧ (Builtin.Int.intBits i : Int) * j ≤ 2 ^ 27) fun i j => .int (i ^ j.toNat)) := op_int op_powW fun _ _ _ => .int _

/-! ### * -/
def repS (x : Str) (n : Int) : Str := ⟨(List.replicate n.toNat x.cps.toList).flatten.toArray⟩
theorem repS_foldl (x : Str) : ∀ (n : Nat) (acc : Array Nat), (List.replicate n x.cps).foldl (· ++ ·) acc = acc ++ (List.replicate n x.cps.toList).flatten.toArray
  | 0, acc => by simp
  | n + 1, acc => by
    rw [List.replicate_succ, List.foldl_cons, repS_foldl x n, List.replicate_succ, List.flatten_cons]
    apply Array.ext'
    simp
theorem repS_eq (x : Str) (n : Int) : (⟨(List.replicate n.toNat x.cps).foldl (· ++ ·) #[]⟩ : Str) = repS x n := by
  unfold repS
  rw [repS_foldl]
  simp
theorem repS_len (x : Str) (n : Int) : (repS x n).length = n.toNat * x.length := by
  show (List.replicate n.toNat x.cps.toList).flatten.toArray.size = n.toNat * x.cps.size
  simp
theorem op_mul_str : OpR X (binaryOp .Mult) (fun x y H Q => ∃ z n, x = .str z ∧ y = .int n ∧ 0 ≤ n ∧ n ≤ 16384 ∧ z.length ≤ 1024 ∧ Q (.str (repS z n)) H) := by
  intro pins s σ H x y v u Q I rx ry h
  obtain ⟨z, n, rfl, rfl, h1, h2, hz, q⟩ := h
  obtain ⟨t, rfl⟩ := rx
  obtain ⟨t', rfl⟩ := ry
  have hsz : (sizeLine : Nat) = 16777216 := sizeLine_eq
  have hnat : z.length * n.toNat ≤ 1024 * 16384 := Nat.mul_le_mul hz (by omega)
  have fin : ∀ tk : Tok, EP X pins σ Q (.str (repS z n) tk) { s with toks := s.toks + 1 } := fun tk => ⟨.str _, H, I.tok _, ⟨_, rfl⟩, q⟩
  refine PySem.P.mul_str ?_ (fun h3 _ => ?_) (fun h3 _ => ?_) ?_
  · rw [decide_eq_false (by omega), decide_eq_false (by omega)]; rfl
  · intro hgt
    have hdiv : (1024 : Int) ≤ (2 ^ 63 - 1) / n := (Int.le_ediv_iff_mul_le (by omega)).mpr (by omega)
    omega
  · unfold Builtin.Str.tooLong
    rw [decide_eq_false (by omega)]
  · split
    · rename_i h0
      have e0 : n = 0 := by omega
      subst e0
      exact ⟨by decide, fin _⟩
    · split
      · rename_i h0 h3
        have e1 : repS z n = z := by
          have e : n = 1 ∨ z.length = 0 := by simpa using h3
          unfold repS
          rcases e with e | e
          · subst e; simp
          · have ez : z.cps = #[] := Array.size_eq_zero_iff.mp e
            obtain ⟨c⟩ := z
            simp only at ez
            subst ez
            simp
        refine ⟨.str z, H, I, ⟨_, rfl⟩, ?_⟩
        rw [← e1]; exact q
      · refine ⟨?_, ?_⟩
        · rw [repS_eq, repS_len, Nat.mul_comm]; omega
        · rw [repS_eq]; exact fin _
def rMulD (fz : Bool) : RD2
  | .int i, .int j, M, Q => (∃ a b : Nat, i.natAbs < 2 ^ a ∧ j.natAbs < 2 ^ b ∧ a + b ≤ 134217728) ∧ Q (.int (i * j)) M
  | .str x, .int n, M, Q => 0 ≤ n ∧ n ≤ 16384 ∧ x.length ≤ 1024 ∧ Q (.str (repS x n)) M
  | x, .int n, M, Q => ∃ xs, lstIn M x = some xs ∧ 0 ≤ n ∧ n < 2 ^ 62 ∧ xs.length * n.toNat ≤ sizeLine ∧ newL fz (List.replicate n.toNat xs).flatten M Q
  | _, _, _, _ => False
theorem od_mul (fz : Bool) : OpD X Y (binaryOp .Mult) (rMulD fz) := by
  intro pins s σ H x y v u Q0 I rx ry ⟨F, M, d, e, Q, r1, r2, rl, q, k⟩
  unfold rMulD at q
  split at q
  · cases r1
    cases r2
    obtain ⟨⟨a, b, ha, hb, hab⟩, q⟩ := q
    exact (opI fun _ _ _ _ _ _ _ hc q => mul_int q (CMulX.ok hc)) pins s σ H _ _ v u Q0 I rx ry ⟨_, _, rfl, rfl, mulx_ok ha hb hab, k _ _ F M H (Stp.refl rl) (.int _) q⟩
  · cases r1
    cases r2
    obtain ⟨h1, h2, h3, q⟩ := q
    exact op_mul_str pins s σ H _ _ v u Q0 I rx ry ⟨_, _, rfl, rfl, h1, h2, h3, k _ _ F M H (Stp.refl rl) (.str _) q⟩
  · cases r2
    obtain ⟨xs, e1, h1, h2, hz, q⟩ := q
    obtain ⟨a, vs, rfl, h3, ra⟩ := lstIn_rp rl r1 e1
    exact op_rep pins s σ H _ _ v u Q0 I rx ry ⟨a, _, vs, rfl, rfl, h3, by omega, by omega, by rw [ra.length]; exact hz, fun p hp => newL_ok rl (ra.rep _) q k p hp⟩
  · exact q.elim

/-! ### == and != -/
mutual
def D.py : DL.D → Option PyData
  | .non => some .none
  | .bl b => some (.bool b)
  | .int i => some (.int i)
  | .str x => some (.str x)
  | .tup xs => match pyAll xs with
    | some ps => some (.tuple ps)
    | none => none
  | .lst xs => match pyAll xs with
    | some ps => some (.list ps)
    | none => none
  | .slst xs => match pyAll xs with
    | some ps => some (.list ps)
    | none => none
  | .ref _ => none
  | .dct _ _ => none
  | .exc _ _ => none
def pyAll : List DL.D → Option (List PyData)
  | [] => some []
  | x :: xs => match x.py, pyAll xs with
    | some p, some ps => some (p :: ps)
    | _, _ => none
end
mutual
theorem py_dp {K : PySem.W.Frag} {F H : Hp} (sub : Same F H) : ∀ (d : DL.D) (v : V) (p : PyData), Rp K F v d → d.py = some p → Dp K H v p
  | .non, _, _, r, h => by cases r; simp only [D.py] at h; cases h; exact .non
  | .bl b, _, _, r, h => by cases r; simp only [D.py] at h; cases h; exact .bl b
  | .int i, _, _, r, h => by cases r; simp only [D.py] at h; cases h; exact .int i
  | .str x, _, _, r, h => by cases r; simp only [D.py] at h; cases h; exact .str x
  | .ref a, _, _, r, h => by simp only [D.py] at h; cases h
  | .dct _ _, _, _, r, h => by simp only [D.py] at h; cases h
  | .exc _ _, _, _, r, h => by simp only [D.py] at h; cases h
  | .tup xs, _, _, r, h => by
    cases r with
    | tup sq ra =>
      simp only [D.py] at h
      split at h
      · rename_i ps e
        cases h
        exact .tup (Same.tseq sub sq) (pyAll_dp sub xs _ ps ra e)
      · cases h
  | .lst xs, _, _, r, h => by
    cases r with
    | lst sq ra =>
      simp only [D.py] at h
      split at h
      · rename_i ps e
        cases h
        exact .lst (SqL.of (sub _ _ sq)) (pyAll_dp sub xs _ ps ra e)
      · cases h
  | .slst xs, _, _, r, h => by
    cases r with
    | slst sq ra =>
      simp only [D.py] at h
      split at h
      · rename_i ps e
        cases h
        exact .lst (sub.seq sq) (pyAll_dp sub xs _ ps ra e)
      · cases h
theorem pyAll_dp {K : PySem.W.Frag} {F H : Hp} (sub : Same F H) : ∀ (ds : List DL.D) (vs : List V) (ps : List PyData), RpAll K F vs ds → pyAll ds = some ps → DpAll K H vs ps
  | [], _, _, r, h => by cases r; simp only [pyAll] at h; cases h; exact .nil
  | d :: ds, _, _, r, h => by
    cases r with
    | cons r1 r2 =>
      simp only [pyAll] at h
      split at h
      · rename_i p ps e1 e2
        cases h
        exact .cons (py_dp sub d _ p r1 e1) (pyAll_dp sub ds _ ps r2 e2)
      · cases h
end
/-- a value's data; a list that may change: as it stands -/
def pyM (M : Mp) : DL.D → Option PyData
  | .ref a => match mol (M a) with
    | some xs => match pyAll xs with
      | some ps => some (.list ps)
      | none => none
    | none => none
  | d => d.py
theorem pyM_dp {K : PySem.W.Frag} {Y : KJ K} {F : Hp} {M : Mp} {H : Hp} (R : Rel Y F M H) {v : V} {d : DL.D} {p : PyData} (r : Rp K F v d) (h : pyM M d = some p) : Dp K H v p := by
  unfold pyM at h
  split at h
  · cases r
    split at h
    · rename_i xs e
      split at h
      · rename_i ps e2
        cases h
        obtain ⟨vs, h1, ra⟩ := R.lst (mol_some e)
        exact .lst (SqL.of h1) (pyAll_dp R.sub xs vs ps ra e2)
      · cases h
    · cases h
  · exact py_dp R.sub _ _ _ r h
def rEqD2 (neg : Bool) : RD2
  | .str a, .str b, M, Q => Q (.bl (if neg then !decide (a = b) else decide (a = b))) M
  | .int a, .int b, M, Q => Q (.bl (if neg then !decide (a = b) else decide (a = b))) M
  | .bl a, .bl b, M, Q => Q (.bl (if neg then !decide (a = b) else decide (a = b))) M
  | .str _, .non, M, Q => Q (.bl neg) M
  | .non, .str _, M, Q => Q (.bl neg) M
  | .int _, .non, M, Q => Q (.bl neg) M
  | .non, .int _, M, Q => Q (.bl neg) M
  | .bl _, .non, M, Q => Q (.bl neg) M
  | .non, .bl _, M, Q => Q (.bl neg) M
  | .non, .non, M, Q => Q (.bl (!neg)) M
  | .int _, .str _, M, Q => Q (.bl neg) M
  | .str _, .int _, M, Q => Q (.bl neg) M
  | .bl _, .str _, M, Q => Q (.bl neg) M
  | .str _, .bl _, M, Q => Q (.bl neg) M
  | x, y, M, Q => ∃ p q, pyM M x = some p ∧ pyM M y = some q ∧ SeqAt.shaped p = true ∧ SeqAt.shaped q = true ∧ Q (.bl (if neg then !PyData.eqv p q else PyData.eqv p q)) M
theorem od_eqs (neg : Bool) (hu : X.A.units + 64 < cLine) : OpD X Y (compareOp (if neg then .NotEq else .Eq)) (rEqD2 neg) := by
  intro pins s σ H x y v u Q0 I rx ry ⟨F, M, d, e, Q, r1, r2, rl, q, k⟩
  have sc : ∀ b : Bool, L2.scal x y = true → Rp X.K F (.bl b) (.bl b) → (if neg then !decide (x = y) else decide (x = y)) = b → Q (.bl b) M → wpAny (model X.prog X.w) X.A (compareOp (if neg then .NotEq else .Eq) v u) (EP X pins σ Q0) X.xe s := by
    intro b hs _ hb q
    have k1 := k _ _ F M H (Stp.refl rl) (.bl b) q
    cases neg with
    | true => exact op_ne pins s σ H x y v u Q0 I rx ry ⟨hs, by rw [show (!decide (x = y)) = b from hb]; exact k1⟩
    | false => exact op_eq pins s σ H x y v u Q0 I rx ry ⟨hs, by rw [show decide (x = y) = b from hb]; exact k1⟩
  unfold rEqD2 at q
  split at q
  all_goals first
    | (cases r1; cases r2; refine sc _ rfl (.bl _) ?_ q; cases neg <;> simp)
    | (obtain ⟨p, p2, e1, e2, h1, h2, q⟩ := q
       have k1 := k _ _ F M H (Stp.refl rl) (.bl _) q
       have d1 := pyM_dp rl r1 e1
       have d2 := pyM_dp rl r2 e2
       cases neg with
       | true => exact op_neD hu pins s σ H x y v u Q0 I rx ry ⟨p, p2, d1, d2, h1, h2, k1⟩
       | false => exact op_eqD hu pins s σ H x y v u Q0 I rx ry ⟨p, p2, d1, d2, h1, h2, k1⟩)
theorem od_eq {n : Nat} (hr : Room n X.A) : OpD X Y (compareOp .Eq) (rEqD2 false) := od_eqs false hr.units
theorem od_ne {n : Nat} (hr : Room n X.A) : OpD X Y (compareOp .NotEq) (rEqD2 true) := od_eqs true hr.units

/-! ### order, in -/
def rLtD : RD2
  | .int i, .int j, M, Q => Q (.bl (decide (i < j))) M
  | .str x, .str y, M, Q => Q (.bl (decide (x.cps.toList < y.cps.toList))) M
  | _, _, _, _ => False
theorem od_lt : OpD X Y (compareOp .Lt) rLtD := by
  intro pins s σ H x y v u Q0 I rx ry ⟨F, M, d, e, Q, r1, r2, rl, q, k⟩
  unfold rLtD at q
  split at q
  · cases r1
    cases r2
    exact op_lt pins s σ H _ _ v u Q0 I rx ry ⟨_, _, rfl, rfl, k _ _ F M H (Stp.refl rl) (.bl _) q⟩
  · cases r1
    cases r2
    exact op_lt_str pins s σ H _ _ v u Q0 I rx ry ⟨_, _, rfl, rfl, k _ _ F M H (Stp.refl rl) (.bl _) q⟩
  · exact q.elim
theorem od_le : OpD X Y (compareOp .LtE) (rInt (fun _ _ => True) fun i j => .bl (decide (i ≤ j))) := op_int0 op_le fun _ _ _ => .bl _
theorem od_gt : OpD X Y (compareOp .Gt) (rInt (fun _ _ => True) fun i j => .bl (decide (j < i))) := op_int0 op_gt fun _ _ _ => .bl _
theorem od_ge : OpD X Y (compareOp .GtE) (rInt (fun _ _ => True) fun i j => .bl (decide (j ≤ i))) := op_int0 op_ge fun _ _ _ => .bl _
/-- a flat value as it is told without the heap -/
def vOf : DL.D → V
  | .bl b => .bl b
  | .int i => .int i
  | .str x => .str x
  | _ => .non
def flatD : DL.D → Bool
  | .non => true
  | .bl _ => true
  | .int _ => true
  | .str _ => true
  | _ => false
theorem flat_v {K : PySem.W.Frag} {F : Hp} {v : V} {d : DL.D} (r : Rp K F v d) (h : flatD d = true) : v = vOf d ∧ L2.flatV v = true := by
  cases r <;> first | exact ⟨rfl, rfl⟩ | cases h
theorem flat_vs {K : PySem.W.Frag} {F : Hp} : ∀ {vs : List V} {ds : List DL.D}, RpAll K F vs ds → ds.all flatD = true → vs = ds.map vOf ∧ vs.all L2.flatV = true
  | _, _, .nil, _ => ⟨rfl, rfl⟩
  | _, _, .cons r t, h => by
    rw [List.all_cons, Bool.and_eq_true] at h
    obtain ⟨e1, e2⟩ := flat_v r h.1
    obtain ⟨e3, e4⟩ := flat_vs t h.2
    exact ⟨by rw [List.map_cons, ← e1, ← e3], by rw [List.all_cons, e2, e4]; rfl⟩
def seqOf (M : Mp) : DL.D → Option (List DL.D)
  | .tup xs => some xs
  | d => lstOf M d
theorem seqOf_rp {K : PySem.W.Frag} {Y : KJ K} {F : Hp} {M : Mp} {H : Hp} {v : V} {d : DL.D} {ds : List DL.D} (R : Rel Y F M H) (r : Rp K F v d) (h : seqOf M d = some ds) : ∃ a xs, v = .ref a ∧ (SqL K H a xs ∨ SqT K H a xs) ∧ RpAll K F xs ds := by
  unfold seqOf at h
  split at h
  · cases h
    cases r with
    | tup sq ra => exact ⟨_, _, rfl, .inr (Same.tseq R.sub sq), ra⟩
  · obtain ⟨a, xs, e, h1, ra⟩ := lstOf_rp R r h
    exact ⟨a, xs, e, .inl h1, ra⟩
def rInD (neg : Bool) : RD2
  | .str x, .str y, M, Q => ∃ c, x = ⟨#[c]⟩ ∧ Q (.bl (if neg then !decide (c ∈ y.cps.toList) else decide (c ∈ y.cps.toList))) M
  | d, e, M, Q => ∃ ys, seqOf M e = some ys ∧ flatD d = true ∧ ys.all flatD = true ∧ Q (.bl (if neg then !(ys.any fun y => L2.eqV (vOf y) (vOf d)) else ys.any fun y => L2.eqV (vOf y) (vOf d))) M
theorem od_ins (neg : Bool) : OpD X Y (compareOp (if neg then .NotIn else .In)) (rInD neg) := by
  intro pins s σ H x y v u Q0 I rx ry ⟨F, M, d, e, Q, r1, r2, rl, q, k⟩
  unfold rInD at q
  split at q
  · cases r1
    cases r2
    obtain ⟨c, e1, q⟩ := q
    subst e1
    have k1 := k _ _ F M H (Stp.refl rl) (.bl _) q
    cases neg with
    | true => exact op_notIn_sign pins s σ H _ _ v u Q0 I rx ry ⟨c, _, rfl, rfl, k1⟩
    | false => exact op_in_sign pins s σ H _ _ v u Q0 I rx ry ⟨c, _, rfl, rfl, k1⟩
  · obtain ⟨ys, e1, f1, f2, q⟩ := q
    have k1 := k _ _ F M H (Stp.refl rl) (.bl _) q
    obtain ⟨a, xs, rfl, h1, ra⟩ := seqOf_rp rl r2 e1
    obtain ⟨ev, fv⟩ := flat_v r1 f1
    obtain ⟨ews, fws⟩ := flat_vs ra f2
    have ei : (ys.any fun y => L2.eqV (vOf y) (vOf d)) = L2.inV x xs := by
      unfold L2.inV
      rw [ews, ev, List.any_map]
      rfl
    rw [ei] at k1
    cases neg with
    | true => exact op_notIn_seq pins s σ H _ _ v u Q0 I rx ry ⟨a, xs, rfl, h1, fv, fws, k1⟩
    | false => exact op_in_seq pins s σ H _ _ v u Q0 I rx ry ⟨a, xs, rfl, h1, fv, fws, k1⟩
theorem od_in : OpD X Y (compareOp .In) (rInD false) := od_ins false
theorem od_notIn : OpD X Y (compareOp .NotIn) (rInD true) := od_ins true
def isNon : DL.D → Bool
  | .non => true
  | _ => false
def rIsN (neg : Bool) : RD2 := fun x y M Q => y = .non ∧ Q (.bl (if neg then !isNon x else isNon x)) M
theorem isNon_v {K : PySem.W.Frag} {F : Hp} {v : V} {d : DL.D} (r : Rp K F v d) : decide (v = .non) = isNon d := by cases r <;> simp [isNon]
theorem od_iss (neg : Bool) : OpD X Y (compareOp (if neg then .IsNot else .Is)) (rIsN neg) := by
  intro pins s σ H x y v u Q0 I rx ry ⟨F, M, d, e, Q, r1, r2, rl, ⟨e1, q⟩, k⟩
  subst e1
  cases r2
  have k1 := k _ _ F M H (Stp.refl rl) (.bl _) q
  rw [← isNon_v r1] at k1
  cases neg with
  | true => exact op_notN pins s σ H _ _ v u Q0 I rx ry ⟨rfl, k1⟩
  | false => exact op_isN pins s σ H _ _ v u Q0 I rx ry ⟨rfl, k1⟩
theorem od_is : OpD X Y (compareOp .Is) (rIsN false) := od_iss false
theorem od_isNot : OpD X Y (compareOp .IsNot) (rIsN true) := od_iss true
end
end DL

/-! DL4: items, slices, built-in calls, methods, what is walked, over data. -/
namespace DL
open PySem PySem.Spec L2
open PyProof.Rows hiding St

section
variable {X : Cx} {Y : KJ X.K} {pos p2 : Pos} {a b e : Expr} {t u : DTE}
/-! ### items -/
def rIxD : RD2
  | .str z, .int i, M, Q => z.length ≤ sizeLine ∧ ∃ c, atI z.cps.toList i = some c ∧ Q (.str ⟨#[c]⟩) M
  | x, .int i, M, Q => ∃ xs d, seqOf M x = some xs ∧ atI xs i = some d ∧ Q d M
  | _, _, _, _ => False
theorem atI_rp {K : PySem.W.Frag} {F : Hp} {vs : List V} {ds : List DL.D} {i : Int} {d : DL.D} (ra : RpAll K F vs ds) (h : atI ds i = some d) : ∃ v, atI vs i = some v ∧ Rp K F v d := by
  unfold atI at h ⊢
  rw [ra.length]
  cases e : ixN ds.length i with
  | none => rw [e] at h; cases h
  | some j =>
    rw [e] at h
    exact ra.get (show ds[j]? = some d from h)
theorem ixd : IxR X (can2 Y rIxD) := by
  intro value slice pins s σ H x y v w Q0 I rx ry ⟨F, M, d, e, Q, r1, r2, rl, q, k⟩ hs
  unfold rIxD at q
  split at q
  · cases r1
    cases r2
    obtain ⟨hz, c, hc, q⟩ := q
    exact ix_str value slice pins s σ H _ _ v w Q0 I rx ry ⟨_, _, c, rfl, rfl, hz, hc, k _ _ F M H (Stp.refl rl) (.str _) q⟩ hs
  · cases r2
    obtain ⟨xs, dd, e1, e2, q⟩ := q
    obtain ⟨p, vs, rfl, h1, ra⟩ := seqOf_rp rl r1 e1
    obtain ⟨vv, h2, rp⟩ := atI_rp ra e2
    have k1 := k vv dd F M H (Stp.refl rl) rp q
    rcases h1 with h1 | h1
    · exact ix_list value slice pins s σ H _ _ v w Q0 I rx ry ⟨p, vs, _, vv, rfl, rfl, h1, h2, k1⟩ hs
    · exact ix_tup value slice pins s σ H _ _ v w Q0 I rx ry ⟨p, vs, _, vv, rfl, rfl, h1, h2, k1⟩ hs
  · exact q.elim
theorem de_ix (ha : DE X Y a t) (hb : DE X Y b u) (hs : PlainIx b := by exact fun _ _ => rfl) : DE X Y (.Subscript a b pos) (dOp rIxD t u) :=
  PE.weak (pe_ix ixd ha hb hs) fun _ _ _ q => can_op q

/-! ### slices -/
abbrev DTO := Rho → Mp → (Option Int → Mp → Prop) → Prop
def canO {K : PySem.W.Frag} (Y : KJ K) (t : DTO) : TO := fun σ H Q0 => ∃ F M ρ Q, RelS K F σ ρ ∧ Rel Y F M H ∧ t ρ M Q ∧ ∀ o F' M' H', Stp Y F M H F' M' H' → Q o M' → Q0 o H'
abbrev DO (X : Cx) (Y : KJ X.K) (e : Option Expr) (t : DTO) : Prop := PO X e (canO Y t)
def dNoPart : DTO := fun _ M Q => Q none M
def dPart (t : DTE) : DTO := fun ρ M Q => t ρ M fun d M1 => ∃ i, d = .int i ∧ Q (some i) M1
theorem do_none : DO X Y none dNoPart := by
  refine ⟨fun pins s σ H Q0 I ⟨F, M, ρ, Q, rs, rl, q, k⟩ => ?_⟩
  exact po_none.run pins s σ H _ I (k none F M H (Stp.refl rl) q)
theorem do_some (h : DE X Y e t) : DO X Y (some e) (dPart t) := by
  refine ⟨fun pins s σ H Q0 I ⟨F, M, ρ, Q, rs, rl, q, k⟩ => ?_⟩
  refine (po_some h).run pins s σ H _ I ⟨F, M, ρ, _, rs, rl, q, fun v d F1 M1 H1 s1 rp ⟨i, e1, q1⟩ => ?_⟩
  subst e1
  cases rp
  exact ⟨i, rfl, k _ F1 M1 H1 s1 q1⟩
def cutD {α : Type} (xs : List α) (lo hi : Option Int) : List α := (xs.drop (HT.sIx xs.length 0 lo)).take (HT.sIx xs.length xs.length hi - HT.sIx xs.length 0 lo)
theorem cut_rp {K : PySem.W.Frag} {F : Hp} {vs : List V} {ds : List DL.D} (ra : RpAll K F vs ds) (lo hi : Option Int) : RpAll K F (cutV vs lo hi) (cutD ds lo hi) := by
  unfold cutV cutD
  rw [ra.length]
  exact (ra.drop _).take _
def rSlD (fz : Bool) : DL.D → Option Int → Option Int → Mp → DK → Prop
  | .str z, lo, hi, M, Q => z.length ≤ sizeLine ∧ Q (.str (L2.cutS z lo hi)) M
  | .tup xs, lo, hi, M, Q => Q (.tup (cutD xs lo hi)) M
  | x, lo, hi, M, Q => ∃ xs, lstOf M x = some xs ∧ newL fz (cutD xs lo hi) M Q
def canSl {K : PySem.W.Frag} (Y : KJ K) (r : DL.D → Option Int → Option Int → Mp → DK → Prop) : V → Option Int → Option Int → Hp → VK → Prop := fun x lo hi H Q0 => ∃ F M d Q, Rp K F x d ∧ Rel Y F M H ∧ r d lo hi M Q ∧
  ∀ v z F' M' H', Stp Y F M H F' M' H' → Rp K F' v z → Q z M' → Q0 v H'
theorem sld (fz : Bool) : SlR X (canSl Y (rSlD fz)) := by
  intro pins s σ H x v vl vu lo hi sl Q0 I rx hs pl pu ⟨F, M, d, Q, r1, rl, q, k⟩
  unfold rSlD at q
  split at q
  · cases r1
    exact sl_str pins s σ H _ v vl vu lo hi sl Q0 I rx hs pl pu ⟨_, rfl, q.1, k _ _ F M H (Stp.refl rl) (.str _) q.2⟩
  · cases r1 with
    | tup sq ra =>
      refine sl_tupA pins s σ H _ v vl vu lo hi sl Q0 I rx hs pl pu ?_
      refine ⟨_, _, rfl, Same.tseq rl.sub sq, fun ⟨h1, h2⟩ => ?_, fun _ p hp => newT_ok rl (cut_rp ra lo hi) q k p hp⟩
      rw [ra.length] at h1 h2
      refine k _ _ F M H (Stp.refl rl) (.tup sq ra) ?_
      unfold cutD at q
      rw [h1, h2] at q
      simpa using q
  · obtain ⟨xs, e1, q⟩ := q
    obtain ⟨p, vs, rfl, h1, ra⟩ := lstOf_rp rl r1 e1
    exact sl_list pins s σ H _ v vl vu lo hi sl Q0 I rx hs pl pu ⟨p, vs, rfl, h1, fun p hp => newL_ok rl (cut_rp ra lo hi) q k p hp⟩
def dSl (fz : Bool) (t : DTE) (l h : DTO) : DTE := fun ρ M Q => t ρ M fun x M1 => l ρ M1 fun lo M2 => h ρ M2 fun hi M3 => rSlD fz x lo hi M3 Q
theorem de_slice (fz : Bool) {lo hi : Option Expr} {l h : DTO} (he : DE X Y e t) (hl : DO X Y lo l) (hh : DO X Y hi h) : DE X Y (.Subscript e (.Slice lo hi none p2) pos) (dSl fz t l h) := by
  refine PE.weak (pe_slice (sld (Y := Y) fz) he hl hh) ?_
  rintro σ H Q0 ⟨F, M, ρ, Q, rs, rl, q, k⟩
  refine ⟨F, M, ρ, _, rs, rl, q, fun v d F1 M1 H1 s1 rp q1 => ?_⟩
  refine ⟨F1, M1, ρ, _, rs.mono s1.same, s1.rel, q1, fun lo F2 M2 H2 s2 q2 => ?_⟩
  refine ⟨F2, M2, ρ, _, (rs.mono s1.same).mono s2.same, s2.rel, q2, fun hi F3 M3 H3 s3 q3 => ?_⟩
  exact ⟨F3, M3, d, Q, (rp.mono s2.same).mono s3.same, s3.rel, q3, fun v z F4 M4 H4 s4 => k v z F4 M4 H4 (((s1.trans s2).trans s3).trans s4)⟩

/-! ### built-in calls -/
abbrev RDL := List DL.D → Mp → DK → Prop
def canL {K : PySem.W.Frag} (Y : KJ K) (r : RDL) : List V → Hp → VK → Prop := fun vs H Q0 => ∃ F M ds Q, RpAll K F vs ds ∧ Rel Y F M H ∧ r ds M Q ∧
  ∀ v z F' M' H', Stp Y F M H F' M' H' → Rp K F' v z → Q z M' → Q0 v H'
abbrev CallD (X : Cx) (Y : KJ X.K) (f : Value) (r : RDL) : Prop := CallR X f (canL Y r)
def dCB (r : RDL) (t : DTA) : DTE := fun ρ M Q => t ρ M fun ds M1 => r ds M1 Q
theorem can_cb {K : PySem.W.Frag} {Y : KJ K} {r : RDL} {ta : DTA} {σ : St} {H : Hp} {Q0 : VK} (h : canE Y (dCB r ta) σ H Q0) : tCB (canL Y r) (canA Y ta) σ H Q0 := by
  obtain ⟨F, M, ρ, Q, rs, rl, q, k⟩ := h
  refine ⟨F, M, ρ, _, rs, rl, q, fun vs ds F1 M1 H1 s1 rp q1 => ?_⟩
  exact ⟨F1, M1, ds, Q, rp, s1.rel, q1, fun v z F2 M2 H2 s2 => k v z F2 M2 H2 (s1.trans s2)⟩
theorem de_b {id : String} {x : Str} {p : Pos} {es : List Expr} {r : RDL} {ta : DTA} (hc : CallD X Y (.builtin id) r) (hm : X.mg x = none) (ha : DA X Y (e :: es) ta) (hv : bootBuiltins x = some (.builtin id) := by decide +kernel) (hg : Gl X x := by rfl)
    (hn : x ≠ "__name__" := by decide) (hdb : (x == ("__debug__" : Str)) = false := by decide)
    (he : starEach (e :: es) X.env = (false, eval e X.env) :: starEach es X.env := by rfl) (hpl : (backTo pos (starEach es X.env)).any (·.1) = false := by rfl) : DE X Y (.Call (.Name x p) (e :: es) [] pos) (dCB r ta) :=
  PE.weak (pe_callB hc hg hm hv ha hn hdb he hpl) fun _ _ _ q => can_cb q
theorem de_bT {T : String} {x : Str} {p : Pos} {es : List Expr} {r : RDL} {ta : DTA} (hc : CallD X Y (.type T) r) (hm : X.mg x = none) (ha : DA X Y (e :: es) ta) (hv : bootBuiltins x = some (.type T) := by decide +kernel) (hg : Gl X x := by rfl)
    (hn : x ≠ "__name__" := by decide) (hdb : (x == ("__debug__" : Str)) = false := by decide)
    (he : starEach (e :: es) X.env = (false, eval e X.env) :: starEach es X.env := by rfl) (hpl : (backTo pos (starEach es X.env)).any (·.1) = false := by rfl) : DE X Y (.Call (.Name x p) (e :: es) [] pos) (dCB r ta) :=
  PE.weak (pe_callTy hc hg hm hv ha hn hdb he hpl) fun _ _ _ q => can_cb q
theorem rp1 {K : PySem.W.Frag} {F : Hp} {vs : List V} {d : DL.D} (h : RpAll K F vs [d]) : ∃ v, vs = [v] ∧ Rp K F v d := by
  cases h with
  | cons r t => cases t; exact ⟨_, rfl, r⟩
theorem rp2 {K : PySem.W.Frag} {F : Hp} {vs : List V} {d d' : DL.D} (h : RpAll K F vs [d, d']) : ∃ v v', vs = [v, v'] ∧ Rp K F v d ∧ Rp K F v' d' := by
  cases h with
  | cons r t =>
    obtain ⟨v, e, r'⟩ := rp1 t
    exact ⟨_, v, by rw [e], r, r'⟩
theorem rp_map {K : PySem.W.Frag} {F : Hp} {α : Type} {f : α → DL.D} {g : α → V} (h : ∀ v a, Rp K F v (f a) → v = g a) : ∀ {vs : List V} {as : List α}, RpAll K F vs (as.map f) → vs = as.map g
  | _, [], .nil => rfl
  | _, a :: as, .cons r t => by rw [List.map_cons, h _ a r, rp_map h t]
theorem rp_ints {K : PySem.W.Frag} {F : Hp} {vs : List V} {ns : List Int} (h : RpAll K F vs (ns.map D.int)) : vs = ns.map V.int := rp_map (fun v a r => by cases r; rfl) h
theorem rp_strs {K : PySem.W.Frag} {F : Hp} {vs : List V} {ns : List Str} (h : RpAll K F vs (ns.map D.str)) : vs = ns.map V.str := rp_map (fun v a r => by cases r; rfl) h
theorem rp_bls {K : PySem.W.Frag} {F : Hp} {vs : List V} {ns : List Bool} (h : RpAll K F vs (ns.map D.bl)) : vs = ns.map V.bl := rp_map (fun v a r => by cases r; rfl) h
theorem of_ints {K : PySem.W.Frag} {F : Hp} : ∀ ns : List Int, RpAll K F (ns.map V.int) (ns.map D.int)
  | [] => .nil
  | n :: ns => .cons (.int n) (of_ints ns)
theorem of_strs {K : PySem.W.Frag} {F : Hp} : ∀ ns : List Str, RpAll K F (ns.map V.str) (ns.map D.str)
  | [] => .nil
  | n :: ns => .cons (.str n) (of_strs ns)
def rLen : RDL
  | [.str x], M, Q => x.length ≤ sizeLine ∧ Q (.int x.length) M
  | [d], M, Q => ∃ xs, seqOf M d = some xs ∧ Q (.int xs.length) M
  | _, _, _ => False
theorem cd_len : CallD X Y (.builtin "len") rLen := by
  intro pins s σ H vs us Q0 I r ⟨F, M, ds, Q, rp, rl, q, k⟩
  unfold rLen at q
  split at q
  · obtain ⟨v, rfl, r1⟩ := rp1 rp
    cases r1
    exact call_len pins s σ H _ us Q0 I r ⟨_, _, rfl, ⟨q.1, rfl⟩, k _ _ F M H (Stp.refl rl) (.int _) q.2⟩
  · obtain ⟨v, rfl, r1⟩ := rp1 rp
    obtain ⟨xs, e1, q⟩ := q
    obtain ⟨p, ws, rfl, h1, ra⟩ := seqOf_rp rl r1 e1
    refine call_len_seq pins s σ H _ us Q0 I r ⟨p, ws, rfl, h1, ?_⟩
    rw [ra.length]
    exact k _ _ F M H (Stp.refl rl) (.int _) q
  · exact q.elim
def rAllD : RDL := fun ds M Q => ∃ (d : DL.D) (bs : List Bool), ds = [d] ∧ lstOf M d = some (bs.map D.bl) ∧ Q (.bl (bs.all id)) M
def rAnyD : RDL := fun ds M Q => ∃ (d : DL.D) (bs : List Bool), ds = [d] ∧ lstOf M d = some (bs.map D.bl) ∧ Q (.bl (bs.any id)) M
theorem cd_all (hc : X.calm = true) : CallD X Y (.builtin "all") rAllD := by
  intro pins s σ H vs us Q0 I r ⟨F, M, ds, Q, rp, rl, ⟨d, bs, e, e1, q⟩, k⟩
  subst e
  obtain ⟨v, rfl, r1⟩ := rp1 rp
  obtain ⟨p, ws, rfl, h1, ra⟩ := lstOf_rp rl r1 e1
  rw [rp_bls ra] at h1
  exact cr_all hc pins s σ H _ us Q0 I r ⟨p, bs, rfl, h1, k _ _ F M H (Stp.refl rl) (.bl _) q⟩
theorem cd_any (hc : X.calm = true) : CallD X Y (.builtin "any") rAnyD := by
  intro pins s σ H vs us Q0 I r ⟨F, M, ds, Q, rp, rl, ⟨d, bs, e, e1, q⟩, k⟩
  subst e
  obtain ⟨v, rfl, r1⟩ := rp1 rp
  obtain ⟨p, ws, rfl, h1, ra⟩ := lstOf_rp rl r1 e1
  rw [rp_bls ra] at h1
  exact cr_any hc pins s σ H _ us Q0 I r ⟨p, bs, rfl, h1, k _ _ F M H (Stp.refl rl) (.bl _) q⟩
def rSumD : RDL := fun ds M Q => ∃ (d : DL.D) (ns : List Int), ds = [d] ∧ lstOf M d = some (ns.map D.int) ∧ Q (.int ns.sum) M
theorem cd_sum (hc : X.calm = true) : CallD X Y (.builtin "sum") rSumD := by
  intro pins s σ H vs us Q0 I r ⟨F, M, ds, Q, rp, rl, ⟨d, ns, e, e1, q⟩, k⟩
  subst e
  obtain ⟨v, rfl, r1⟩ := rp1 rp
  obtain ⟨p, ws, rfl, h1, ra⟩ := lstOf_rp rl r1 e1
  rw [rp_ints ra] at h1
  exact cr_sum hc pins s σ H _ us Q0 I r ⟨p, ns, rfl, h1, k _ _ F M H (Stp.refl rl) (.int _) q⟩
def rAbsD : RDL := fun ds M Q => ∃ i, ds = [.int i] ∧ Q (.int (if i < 0 then -i else i)) M
theorem cd_abs : CallD X Y (.builtin "abs") rAbsD := by
  intro pins s σ H vs us Q0 I r ⟨F, M, ds, Q, rp, rl, ⟨i, e, q⟩, k⟩
  subst e
  obtain ⟨v, rfl, r1⟩ := rp1 rp
  cases r1
  exact call_abs pins s σ H _ us Q0 I r ⟨_, rfl, k _ _ F M H (Stp.refl rl) (.int _) q⟩
def rMax2D : RDL := fun ds M Q => ∃ i j, ds = [.int i, .int j] ∧ Q (.int (if j > i then j else i)) M
def rMin2D : RDL := fun ds M Q => ∃ i j, ds = [.int i, .int j] ∧ Q (.int (if j < i then j else i)) M
theorem cd_max2 (hc : X.calm = true) : CallD X Y (.builtin "max") rMax2D := by
  intro pins s σ H vs us Q0 I r ⟨F, M, ds, Q, rp, rl, ⟨i, j, e, q⟩, k⟩
  subst e
  obtain ⟨v, v', rfl, r1, r2⟩ := rp2 rp
  cases r1
  cases r2
  exact call_max2 hc pins s σ H _ us Q0 I r ⟨_, _, rfl, k _ _ F M H (Stp.refl rl) (.int _) q⟩
theorem cd_min2 (hc : X.calm = true) : CallD X Y (.builtin "min") rMin2D := by
  intro pins s σ H vs us Q0 I r ⟨F, M, ds, Q, rp, rl, ⟨i, j, e, q⟩, k⟩
  subst e
  obtain ⟨v, v', rfl, r1, r2⟩ := rp2 rp
  cases r1
  cases r2
  exact call_min2 hc pins s σ H _ us Q0 I r ⟨_, _, rfl, k _ _ F M H (Stp.refl rl) (.int _) q⟩
def rIntD : RDL
  | [.int i], M, Q => Q (.int i) M
  | [.bl b], M, Q => Q (.int (if b = true then 1 else 0)) M
  | _, _, _ => False
theorem cd_int : CallD X Y (.type "int") rIntD := by
  intro pins s σ H vs us Q0 I r ⟨F, M, ds, Q, rp, rl, q, k⟩
  unfold rIntD at q
  split at q
  · obtain ⟨v, rfl, r1⟩ := rp1 rp
    cases r1
    exact call_int1 pins s σ H _ us Q0 I r (.inl ⟨_, rfl, k _ _ F M H (Stp.refl rl) (.int _) q⟩)
  · obtain ⟨v, rfl, r1⟩ := rp1 rp
    cases r1
    exact call_int1 pins s σ H _ us Q0 I r (.inr ⟨_, rfl, k _ _ F M H (Stp.refl rl) (.int _) q⟩)
  · exact q.elim
def rStrD : RDL := fun ds M Q => ∃ i, ds = [.int i] ∧ i.natAbs.log2 < 1920 ∧ Q (.str (toString i)) M
theorem cd_str : CallD X Y (.type "str") rStrD := by
  intro pins s σ H vs us Q0 I r ⟨F, M, ds, Q, rp, rl, ⟨i, e, h1, q⟩, k⟩
  subst e
  obtain ⟨v, rfl, r1⟩ := rp1 rp
  cases r1
  exact call_str_int pins s σ H _ us Q0 I r ⟨_, rfl, h1, k _ _ F M H (Stp.refl rl) (.str _) q⟩
/-- list(a list or a tuple) -/
def rListD (fz : Bool) : RDL := fun ds M Q => ∃ d xs, ds = [d] ∧ seqOf M d = some xs ∧ newL fz xs M Q
theorem cd_list (fz : Bool) : CallD X Y (.type "list") (rListD fz) := by
  intro pins s σ H vs us Q0 I r ⟨F, M, ds, Q, rp, rl, ⟨d, xs, e, e1, q⟩, k⟩
  subst e
  obtain ⟨v, rfl, r1⟩ := rp1 rp
  obtain ⟨p, ws, rfl, h1, ra⟩ := seqOf_rp rl r1 e1
  exact call_list_of pins s σ H _ us Q0 I r ⟨p, ws, rfl, h1, fun l hl => newL_ok rl ra q k l hl⟩
/-- isinstance(x, a built-in class) -/
def tyD (M : Mp) : DL.D → Option String
  | .non => some "NoneType"
  | .bl _ => some "bool"
  | .int _ => some "int"
  | .str _ => some "str"
  | .tup _ => some "tuple"
  | .lst _ => some "list"
  | .slst _ => some "list"
  | .dct _ _ => some "dict"
  | .exc _ _ => none
  | .ref a => match mol (M a) with
    | some _ => some "list"
    | none => none
theorem tyD_x {K : PySem.W.Frag} {Y : KJ K} {F : Hp} {M : Mp} {H : Hp} {v : V} {d : DL.D} {T : String} (R : Rel Y F M H) (r : Rp K F v d) (h : tyD M d = some T) : TyX K H v (.type T) := by
  cases r with
  | non => cases h; exact .base .non
  | bl b => cases h; exact .base (.bl b)
  | int b => cases h; exact .base (.int b)
  | str b => cases h; exact .base (.str b)
  | tup sq ra =>
    cases h
    rcases Same.tseq R.sub sq with (e | ⟨o, e⟩) | ⟨o, its, n, e, c, _⟩
    · exact .base (.tup e)
    · exact .fTuple e
    · exact .kTuple e c
  | lst e ra => cases h; exact .base (.lst (R.sub _ _ e))
  | slst sq ra =>
    cases h
    rcases R.sub.seq sq with (e | ⟨o, e⟩) | ⟨o, its, n, e, c, _⟩
    · exact .base (.lst e)
    · exact .base (.frz e)
    · exact .kList e c
  | dct e l ra => cases h; exact .base (.dK (R.sub _ _ e))
  | exc _ _ _ _ => cases h
  | ref a =>
    have h' : (match mol (M a) with | some _ => some "list" | none => none) = some T := h
    split at h'
    · rename_i xs e
      cases h'
      obtain ⟨vs, h1, _⟩ := R.lst (mol_some e)
      exact .base (.lst h1)
    · cases h'
end
end DL

/-! DL5: isinstance, what is walked, methods. -/
namespace DL
open PySem PySem.Spec L2
open PyProof.Rows hiding St

/-! ### isinstance -/
def isiB (S T : String) : Bool := S == T || (S == "bool" && T == "int")
def dIsi (T : String) (t : DTE) : DTE := fun ρ M Q => t ρ M fun d M1 => ∃ S, tyD M1 d = some S ∧ Q (.bl (isiB S T)) M1
theorem tyD_mem {M : Mp} {d : DL.D} {S : String} (h : tyD M d = some S) : S = "NoneType" ∨ S = "bool" ∨ S = "int" ∨ S = "str" ∨ S = "tuple" ∨ S = "list" ∨ S = "dict" := by
  cases d with
  | ref a =>
    have h' : (match mol (M a) with | some _ => some "list" | none => none) = some S := h
    split at h'
    · cases h'; simp
    · cases h'
  | exc a b => cases h
  | _ => cases h; simp
theorem kit_all {T : String} (hT : T = "bool" ∨ T = "int" ∨ T = "str" ∨ T = "tuple" ∨ T = "list" ∨ T = "dict") {S : String} (hS : S = "NoneType" ∨ S = "bool" ∨ S = "int" ∨ S = "str" ∨ S = "tuple" ∨ S = "list" ∨ S = "dict") : L2.kitB S T = some (isiB S T) := by
  rcases hT with rfl | rfl | rfl | rfl | rfl | rfl <;> rcases hS with rfl | rfl | rfl | rfl | rfl | rfl | rfl <;> decide +kernel
section
variable {X : Cx} {Y : KJ X.K} {pos p p' : Pos} {e : Expr} {t : DTE}
theorem de_isi {T : String} {y : Str} (m1 : X.mg "isinstance" = none) (m2 : X.mg y = none) (he : DE X Y e t) (hT : T = "bool" ∨ T = "int" ∨ T = "str" ∨ T = "tuple" ∨ T = "list" ∨ T = "dict" := by simp) (hv : bootBuiltins y = some (.type T) := by decide +kernel)
    (hg : Gl X "isinstance" := by rfl) (hg2 : Gl X y := by rfl) (hn : y ≠ "__name__" := by decide) (hd : (y == ("__debug__" : Str)) = false := by decide)
    (s1 : starEach [e, .Name y p'] X.env = (false, eval e X.env) :: starEach [.Name y p'] X.env := by rfl) (s2 : starEach [.Name y p'] X.env = (false, eval (.Name y p') X.env) :: starEach [] X.env := by rfl)
    (hpl : (backTo pos (starEach [.Name y p'] X.env)).any (·.1) = false := by rfl) : DE X Y (.Call (.Name "isinstance" p) [e, .Name y p'] [] pos) (dIsi T t) := by
  have h2 : PE X (.Name y p') (tC (.ty T)) := pe_bltn hg2 m2 hv rfl hn hd
  refine PE.weak (pe_callB call_isi hg m1 (by decide +kernel) (pa_cons he (pa_cons h2 pa_nil s2) s1) (by decide) (by decide) s1 hpl) ?_
  rintro σ H Q0 ⟨F, M, ρ, Q, rs, rl, q, k⟩
  refine ⟨F, M, ρ, _, rs, rl, q, fun v d F1 M1 H1 s1 rp ⟨S, eS, q1⟩ => ?_⟩
  exact ⟨v, .ty T, _, .type T, _, rfl, .ty T, tyD_x s1.rel rp eS, kit_ty (kit_all hT (tyD_mem eS)), k _ _ F1 M1 H1 s1 (.bl _) q1⟩
end

/-! ### what is walked -/
section
variable {X : Cx} {Y : KJ X.K} {pos p : Pos} {tg e : Expr} {t : DTE}
theorem PI.or {u v : TI} (h1 : PI X tg e u) (h2 : PI X tg e v) : PI X tg e (fun σ H R => u σ H R ∨ v σ H R) :=
  ⟨fun pins s σ H R I q => q.elim (fun q => h1.run pins s σ H R I q) fun q => h2.run pins s σ H R I q⟩
/-- the signs of a text -/
def signs (x : Str) : List DL.D := x.cps.toList.map fun c => .str ⟨#[c]⟩
theorem jw_list {K : PySem.W.Frag} {Y : KJ K} {F : Hp} {a : Addr} {ds : List DL.D} {G : Mp → Prop} (st : ∀ F1 M1 H1, Same F F1 → Rel Y F1 M1 H1 → G M1 → ∃ xs, SqL K H1 a xs ∧ RpAll K F1 xs ds) : JW Y F (Itl K a) ds G := by
  refine ⟨fun F1 M1 H1 s r g => ?_⟩
  obtain ⟨xs, sq, ra⟩ := st F1 M1 H1 s r g
  have W := walk_list (K := K) (a := a) (xs := xs)
  refine ⟨by rw [← ra.length]; exact W.stops H1 sq, fun i d hi => ?_⟩
  obtain ⟨v, hv, rp⟩ := ra.get hi
  have hl : i < xs.length := (List.getElem?_eq_some_iff.mp hv).1
  refine ⟨W.goes i H1 hl sq, fun x H2 y => ?_⟩
  obtain ⟨e, y2⟩ := W.yields i H1 x H2 hl sq y
  rw [hv] at y2
  cases y2
  rw [e]
  exact ⟨F1, Stp.refl r, rp⟩
theorem jw_tup {K : PySem.W.Frag} {Y : KJ K} {F : Hp} {a : Addr} {xs : List V} {ds : List DL.D} (ra : RpAll K F xs ds) (sq : SqT K F a xs) : JW Y F (Itt K a) ds (fun _ => True) := by
  refine ⟨fun F1 M1 H1 s r g => ?_⟩
  have sq' := Same.tseq (s.trans r.sub) sq
  have W := walk_tup (K := K) (a := a) (xs := xs)
  refine ⟨by rw [← ra.length]; exact W.stops H1 sq', fun i d hi => ?_⟩
  obtain ⟨v, hv, rp⟩ := ra.get hi
  have hl : i < xs.length := (List.getElem?_eq_some_iff.mp hv).1
  refine ⟨W.goes i H1 hl sq', fun x H2 y => ?_⟩
  obtain ⟨e, y2⟩ := W.yields i H1 x H2 hl sq' y
  rw [hv] at y2
  cases y2
  rw [e]
  exact ⟨F1, Stp.refl r, rp.mono s⟩
theorem jw_str {K : PySem.W.Frag} {Y : KJ K} {F : Hp} {x : Str} : JW Y F (Its x) (signs x) (fun _ => True) :=
  ⟨fun F1 M1 H1 s r g => ⟨by show x.cps.size ≤ (signs x).length; simp [signs], fun i d hi => by
    unfold signs at hi
    rw [List.getElem?_map, Array.getElem?_toList] at hi
    cases e : x.cps[i]? with
    | none => rw [e] at hi; cases hi
    | some c =>
      rw [e] at hi
      cases hi
      refine ⟨(Array.getElem?_eq_some_iff.mp e).1, fun v H2 ⟨e2, c', h', hv⟩ => ?_⟩
      rw [e] at h'
      cases h'
      subst e2 hv
      exact ⟨F1, Stp.refl r, .str _⟩⟩⟩
/-- over a text, a tuple, a list -/
def dIt (t : DTE) : DTI := fun ρ M R => t ρ M fun d M1 => match d with
  | .str x => R (signs x) (fun _ => True) M1
  | .tup xs => R xs (fun _ => True) M1
  | .lst xs => R xs (fun _ => True) M1
  | .slst xs => R xs (fun _ => True) M1
  | .ref a => ∃ xs, M1 a = some (.lst xs) ∧ R xs (fun M => M a = some (.lst xs)) M1
  | _ => False
/-- one walk for each kind of a value that is walked -/
theorem pi_any {te : TE} (he : PE X e te) : PI X tg e (fun σ H R => te σ H fun v H1 => (∃ x, v = .str x ∧ R (Its x) H1) ∨ (∃ a, v = .ref a ∧ (∃ xs, SqT X.K H1 a xs) ∧ R (Itt X.K a) H1) ∨ (∃ a, v = .ref a ∧ (∃ xs, SqL X.K H1 a xs) ∧ R (Itl X.K a) H1)) := by
  constructor
  intro pins s σ H R I q
  refine thn (he.run pins s σ H _ I q) ?_
  rintro u s1 ⟨v, H1, I1, r1, ⟨x, rfl, q1⟩ | ⟨a, rfl, ⟨xs, hq⟩, q1⟩ | ⟨a, rfl, ⟨xs, hq⟩, q1⟩⟩
  · obtain ⟨t, rfl⟩ := r1
    cases ha : x.cps.all (· < 128) with
    | false => exact wpAny_pyIter_wide ha (pi_one (tk := s1.toks) I1 _ (turn_str _ x t "str_iterator" (.inr rfl)) ⟨_, Heap.get?_push_size _ rfl, rfl, rfl⟩ q1)
    | true => exact wpAny_pyIter_ascii ha (pi_one (tk := s1.toks) I1 _ (turn_str _ x t "str_ascii_iterator" (.inl rfl)) ⟨_, Heap.get?_push_size _ rfl, rfl, rfl⟩ q1)
  · cases r1
    obtain ⟨its, rv, p, hz⟩ := I1.tuple hq
    exact wpAny_pyIter_tuple (show s1.heap.IsTuple a its.toArray from p) (pi_one (tk := s1.toks) I1 _ (turn_tuple a _) ⟨_, Heap.get?_push_size _ rfl, rfl, rfl⟩ q1)
  · cases r1
    obtain ⟨its, rv, p, hz⟩ := I1.list hq
    exact wpAny_pyIter_list p.isList (pi_one (tk := s1.toks) I1 _ (turn_list a _) ⟨_, Heap.get?_push_size _ rfl, rfl, rfl⟩ q1)
theorem di_it (he : DE X Y e t) : DI X Y tg e (dIt t) := by
  refine PI.weak (pi_any he) ?_
  rintro σ H R0 ⟨F, M, ρ, R, rs, rl, q, k⟩
  refine ⟨F, M, ρ, _, rs, rl, q, fun v d F1 M1 H1 s1 rp q1 => ?_⟩
  cases d with
  | str x =>
    cases rp
    exact .inl ⟨x, rfl, k _ _ _ F1 M1 H1 s1 jw_str q1⟩
  | tup xs =>
    cases rp with
    | tup sq ra => exact .inr (.inl ⟨_, rfl, ⟨_, Same.tseq s1.rel.sub sq⟩, k _ _ _ F1 M1 H1 s1 (jw_tup ra sq) q1⟩)
  | lst xs =>
    cases rp with
    | lst e1 ra => exact .inr (.inr ⟨_, rfl, ⟨_, SqL.of (s1.rel.sub _ _ e1)⟩, k _ _ _ F1 M1 H1 s1 (jw_list fun F2 M2 H2 s r _ => ⟨_, SqL.of (r.sub _ _ (s _ _ e1)), ra.mono s⟩) q1⟩)
  | slst xs =>
    cases rp with
    | slst e1 ra => exact .inr (.inr ⟨_, rfl, ⟨_, s1.rel.sub.seq e1⟩, k _ _ _ F1 M1 H1 s1 (jw_list fun F2 M2 H2 s r _ => ⟨_, (s.trans r.sub).seq e1, ra.mono s⟩) q1⟩)
  | ref a =>
    obtain ⟨xs, hm, q1⟩ := q1
    cases rp
    obtain ⟨vs, h1, ra⟩ := s1.rel.lst hm
    exact .inr (.inr ⟨_, rfl, ⟨_, SqL.of h1⟩, k _ _ _ F1 M1 H1 s1 (jw_list fun F2 M2 H2 s r g => let ⟨ws, h2, rb⟩ := r.lst g; ⟨ws, SqL.of h2, rb⟩) q1⟩)
  | non => exact q1.elim
  | dct a b => exact q1.elim
  | exc a b => exact q1.elim
  | bl b => exact q1.elim
  | int i => exact q1.elim
/-- over range(n), range(a, b) -/
def rgD (lo : Int) (n : Nat) : List DL.D := (List.range n).map fun i => .int (lo + (i : Nat))
theorem jw_range {K : PySem.W.Frag} {Y : KJ K} {F : Hp} {lo : Int} {n : Nat} : JW Y F (Itr lo n) (rgD lo n) (fun _ => True) :=
  ⟨fun F1 M1 H1 s r g => ⟨by show n ≤ (rgD lo n).length; simp [rgD], fun i d hi => by
    unfold rgD at hi
    rw [List.getElem?_map] at hi
    by_cases h : i < n
    · rw [List.getElem?_range h] at hi
      cases hi
      refine ⟨h, fun v H2 ⟨e2, hv⟩ => ?_⟩
      subst e2 hv
      exact ⟨F1, Stp.refl r, .int _⟩
    · rw [List.getElem?_eq_none (by simpa using h)] at hi
      cases hi⟩⟩
def dRange1 (t : DTE) : DTI := fun ρ M R => t ρ M fun d M1 => ∃ j, d = .int j ∧ -(2 ^ 62) ≤ j ∧ j < 2 ^ 62 ∧ R (rgD 0 j.toNat) (fun _ => True) M1
def dRange2 (t u : DTE) : DTI := fun ρ M R => t ρ M fun d M1 => u ρ M1 fun d' M2 => ∃ i j, d = .int i ∧ d' = .int j ∧ (-(2 ^ 62) ≤ i ∧ i < 2 ^ 62 ∧ -(2 ^ 62) ≤ j ∧ j < 2 ^ 62) ∧ R (rgD i (j - i).toNat) (fun _ => True) M2
theorem di_range1 {u : DTE} (hm : X.mg "range" = none) (he : DE X Y e u) (hg : Gl X "range" := by rfl) (hs : starEach [e] X.env = [(false, eval e X.env)] := by rfl) : DI X Y tg (.Call (.Name "range" p) [e] [] pos) (dRange1 u) := by
  refine PI.weak (pi_range1 hg hm (pa_cons he pa_nil hs) hs) ?_
  rintro σ H R0 ⟨F, M, ρ, R, rs, rl, q, k⟩
  refine ⟨F, M, ρ, _, rs, rl, q, fun v d F1 M1 H1 s1 rp ⟨j, ed, h1, h2, q1⟩ => ?_⟩
  subst ed
  cases rp
  exact ⟨j, rfl, h1, h2, k _ _ _ F1 M1 H1 s1 jw_range q1⟩
theorem di_range2 {e2 : Expr} {u u2 : DTE} (hm : X.mg "range" = none) (he : DE X Y e u) (he2 : DE X Y e2 u2) (hg : Gl X "range" := by rfl) (hs : starEach [e, e2] X.env = [(false, eval e X.env), (false, eval e2 X.env)] := by rfl) (hs2 : starEach [e2] X.env = [(false, eval e2 X.env)] := by rfl) :
    DI X Y tg (.Call (.Name "range" p) [e, e2] [] pos) (dRange2 u u2) := by
  refine PI.weak (pi_range2 hg hm (pa_cons he (pa_cons he2 pa_nil hs2) (by rw [hs, hs2])) hs hs2) ?_
  rintro σ H R0 ⟨F, M, ρ, R, rs, rl, q, k⟩
  refine ⟨F, M, ρ, _, rs, rl, q, fun v d F1 M1 H1 s1 rp q1 => ?_⟩
  refine ⟨F1, M1, ρ, _, rs.mono s1.same, s1.rel, q1, fun v2 d2 F2 M2 H2 s2 rp2 ⟨i, j, e1, e2, hb, q2⟩ => ?_⟩
  subst e1 e2
  cases rp
  cases rp2
  exact ⟨i, j, rfl, hb, k _ _ _ F2 M2 H2 (s1.trans s2) jw_range q2⟩
end
end DL

/-! DL6: stores by place, methods of lists and texts, repr, list(range), zip. -/
namespace DL
open PySem PySem.Spec L2
open PyProof.Rows hiding St

/-! ### xs[i] = v -/
def rSetD : DTSet := fun o i v M Q => ∃ a xs k j, o = .ref a ∧ i = .int k ∧ M a = some (.lst xs) ∧ ixN xs.length k = some j ∧ Q (mu M a (.lst (xs.set j v)))
section
variable {X : Cx} {Y : KJ X.K} {pos : Pos}
theorem set_lstD : PSet X (canSet Y rSetD) := by
  refine PSet.weak set_list ?_
  rintro o i v H Q0 ⟨F, M, od, id, vd, Q, r1, r2, r3, rl, ⟨a, xs, k, j, e1, e2, hm, hj, q⟩, kk⟩
  subst e1 e2
  cases r1
  cases r2
  obtain ⟨vs, h1, ra⟩ := rl.lst hm
  exact ⟨a, vs, k, j, rfl, rfl, h1, by rw [ra.length]; exact hj, kk F _ _ (rl.set hm (xs := (vs.set j v)) (ds := (xs.set j vd)) (ra.set r3 j)) q⟩

/-! ### methods of lists -/
def canMt {K : PySem.W.Frag} (Y : KJ K) (r : DL.D → List DL.D → Mp → DK → Prop) : V → List V → Hp → VK → Prop := fun x vs H Q0 => ∃ F M d ds Q, Rp K F x d ∧ RpAll K F vs ds ∧ Rel Y F M H ∧ r d ds M Q ∧
  ∀ v z F' M' H', Stp Y F M H F' M' H' → Rp K F' v z → Q z M' → Q0 v H'
variable {o e : Expr} {es : List Expr} {to : DTE} {ta : DTA} {name : Str} {apos cpos : Pos} {id : String} {r : DL.D → List DL.D → Mp → DK → Prop}
def dBM (r : DL.D → List DL.D → Mp → DK → Prop) (to : DTE) (ta : DTA) : DTE := fun ρ M Q => to ρ M fun x M1 => (lstOf M1 x).isSome = true ∧ ta ρ M1 fun ds M2 => r x ds M2 Q
theorem ty_list {K : PySem.W.Frag} {Y : KJ K} {F : Hp} {M : Mp} {H : Hp} {v : V} {d : DL.D} (R : Rel Y F M H) (rp : Rp K F v d) (h : (lstOf M d).isSome = true) : tyV K "list" v H := by
  obtain ⟨ds, e⟩ := Option.isSome_iff_exists.mp h
  obtain ⟨a, xs, rfl, h1, _⟩ := lstOf_rp R rp e
  exact .inl ⟨rfl, _, h1⟩
theorem de_bm (slot : Slot "list" name id) (hty : typeOf (.builtin id) = pure (.type "method_descriptor")) (hm : MtR X id (canMt Y r)) (ho : DE X Y o to) (ha : DA X Y (e :: es) ta)
    (hbase : attributeBase o name X.env (eval o X.env) = eval o X.env := by rfl)
    (hfew : ((backTo cpos (starEach (e :: es) X.env)).all (fun x => !x.1) && (backToKw cpos (keywordEach [] X.env)).all (fun x => x.1.isSome)
      && decide ((e :: es).length + ([] : List Keyword).length + (if ([] : List Keyword).isEmpty then 0 else 1) < 30)) = true := by rfl)
    (hline : (apos.endLine == cpos.line) = true := by rfl) (hs : starEach (e :: es) X.env = (false, eval e X.env) :: starEach es X.env := by rfl) (hplain : (backTo cpos (starEach es X.env)).any (·.1) = false := by rfl) :
    DE X Y (.Call (.Attribute o name apos) (e :: es) [] cpos) (dBM r to ta) := by
  refine PE.weak (pe_bm PySem.F.plainAttrs_list slot hty hm ho ha hbase hfew hline hs hplain) ?_
  rintro σ H Q0 ⟨F, M, ρ, Q, rs, rl, q, k⟩
  refine ⟨F, M, ρ, _, rs, rl, q, fun v d F1 M1 H1 s1 rp1 ⟨hl, q1⟩ => ⟨ty_list s1.rel rp1 hl, ?_⟩⟩
  exact ⟨F1, M1, ρ, _, rs.mono s1.same, s1.rel, q1, fun vs ds F2 M2 H2 s2 rp2 q2 => ⟨F2, M2, d, ds, Q, rp1.mono s2.same, rp2, s2.rel, q2, fun v z F3 M3 H3 s3 => k v z F3 M3 H3 ((s1.trans s2).trans s3)⟩⟩
def dBM0 (r : DL.D → List DL.D → Mp → DK → Prop) (to : DTE) : DTE := fun ρ M Q => to ρ M fun x M1 => (lstOf M1 x).isSome = true ∧ r x [] M1 Q
theorem de_bm0 (slot : Slot "list" name id) (hty : typeOf (.builtin id) = pure (.type "method_descriptor")) (hm : MtR X id (canMt Y r)) (ho : DE X Y o to)
    (hbase : attributeBase o name X.env (eval o X.env) = eval o X.env := by rfl) (hline : (apos.endLine == cpos.line) = true := by rfl) : DE X Y (.Call (.Attribute o name apos) [] [] cpos) (dBM0 r to) := by
  refine PE.weak (pe_bm0 PySem.F.plainAttrs_list slot hty hm ho hbase hline) ?_
  rintro σ H Q0 ⟨F, M, ρ, Q, rs, rl, q, k⟩
  exact ⟨F, M, ρ, _, rs, rl, q, fun v d F1 M1 H1 s1 rp1 ⟨hl, q1⟩ => ⟨ty_list s1.rel rp1 hl, F1, M1, d, [], Q, rp1, .nil, s1.rel, q1, fun v z F3 M3 H3 s3 => k v z F3 M3 H3 (s1.trans s3)⟩⟩
theorem of_MtM {id : String} {r : V → List V → Hp → VK → Prop} (h : MtM X id r) : MtR X id r := h
def rAppD : DL.D → List DL.D → Mp → DK → Prop := fun x ds M Q => ∃ a y xs, x = .ref a ∧ ds = [y] ∧ M a = some (.lst xs) ∧ xs.length < sizeLine ∧ Q .non (mu M a (.lst (xs ++ [y])))
theorem md_append : MtR X "list.append" (canMt Y rAppD) := by
  intro pins s σ H x vs v us Q0 I rx rv ⟨F, M, d, ds, Q, r1, r2, rl, ⟨a, y, xs, e1, e2, hm, hz, q⟩, k⟩
  subst e1 e2
  cases r1
  obtain ⟨vy, rfl, ry⟩ := rp1 r2
  obtain ⟨ws, h1, ra⟩ := rl.lst hm
  exact mt_append pins s σ H _ _ v us Q0 I rx rv ⟨a, ws, vy, rfl, rfl, h1, by rw [ra.length]; exact hz, k _ .non F _ _ (rl.set hm (xs := (ws ++ [vy])) (ds := (xs ++ [y])) (ra.append (.cons ry .nil))) .non q⟩
def dAppend (to te : DTE) : DTE := dBM rAppD to (dCons te dNil)
theorem de_append {te : DTE} (ho : DE X Y o to) (he : DE X Y e te) (hs : starEach [e] X.env = (false, eval e X.env) :: starEach [] X.env := by rfl) (hbase : attributeBase o "append" X.env (eval o X.env) = eval o X.env := by rfl) (hline : (apos.endLine == cpos.line) = true := by rfl)
    (hfew : ((backTo cpos (starEach [e] X.env)).all (fun x => !x.1) && (backToKw cpos (keywordEach [] X.env)).all (fun x => x.1.isSome)
      && decide (([e] : List Expr).length + ([] : List Keyword).length + (if ([] : List Keyword).isEmpty then 0 else 1) < 30)) = true := by rfl) :
    DE X Y (.Call (.Attribute o "append" apos) [e] [] cpos) (dAppend to te) :=
  de_bm PySem.F.slot_list_append PySem.F.type_list_append md_append ho (da_cons he da_nil hs) hbase hfew hline hs rfl
def rExtD : DL.D → List DL.D → Mp → DK → Prop := fun x ds M Q => ∃ a y xs ys, x = .ref a ∧ ds = [y] ∧ M a = some (.lst xs) ∧ lstIn M y = some ys ∧ xs.length + ys.length ≤ sizeLine ∧ Q .non (mu M a (.lst (xs ++ ys)))
theorem md_extend : MtR X "list.extend" (canMt Y rExtD) := by
  intro pins s σ H x vs v us Q0 I rx rv ⟨F, M, d, ds, Q, r1, r2, rl, ⟨a, y, xs, ys, e1, e2, hm, hy, hz, q⟩, k⟩
  subst e1 e2
  cases r1
  obtain ⟨vy, rfl, ry⟩ := rp1 r2
  obtain ⟨ws, h1, ra⟩ := rl.lst hm
  obtain ⟨b, zs, rfl, h2, rb⟩ := lstIn_rp rl ry hy
  exact mt_extend pins s σ H _ _ v us Q0 I rx rv ⟨a, b, ws, zs, rfl, rfl, h1, h2, by rw [ra.length, rb.length]; exact hz, k _ .non F _ _ (rl.set hm (xs := (ws ++ zs)) (ds := (xs ++ ys)) (ra.append rb)) .non q⟩
def dExtend (to te : DTE) : DTE := dBM rExtD to (dCons te dNil)
theorem de_extend {te : DTE} (ho : DE X Y o to) (he : DE X Y e te) (hs : starEach [e] X.env = (false, eval e X.env) :: starEach [] X.env := by rfl) (hbase : attributeBase o "extend" X.env (eval o X.env) = eval o X.env := by rfl) (hline : (apos.endLine == cpos.line) = true := by rfl)
    (hfew : ((backTo cpos (starEach [e] X.env)).all (fun x => !x.1) && (backToKw cpos (keywordEach [] X.env)).all (fun x => x.1.isSome)
      && decide (([e] : List Expr).length + ([] : List Keyword).length + (if ([] : List Keyword).isEmpty then 0 else 1) < 30)) = true := by rfl) :
    DE X Y (.Call (.Attribute o "extend" apos) [e] [] cpos) (dExtend to te) :=
  de_bm PySem.F.slot_list_extend PySem.F.type_list_extend md_extend ho (da_cons he da_nil hs) hbase hfew hline hs rfl
def rPopD : DL.D → List DL.D → Mp → DK → Prop := fun x ds M Q => ∃ a xs y, x = .ref a ∧ ds = [] ∧ M a = some (.lst xs) ∧ xs[xs.length - 1]? = some y ∧ Q y (mu M a (.lst xs.dropLast))
theorem md_pop : MtR X "list.pop" (canMt Y rPopD) := by
  intro pins s σ H x vs v us Q0 I rx rv ⟨F, M, d, ds, Q, r1, r2, rl, ⟨a, xs, y, e1, e2, hm, hy, q⟩, k⟩
  subst e1 e2
  cases r1
  cases r2
  obtain ⟨ws, h1, ra⟩ := rl.lst hm
  obtain ⟨vy, h2, ry⟩ := ra.get hy
  have st := rl.set hm (xs := ws.dropLast) (ds := xs.dropLast) ra.dropLast
  exact mt_pop pins s σ H _ _ v us Q0 I rx rv ⟨a, ws, vy, rfl, rfl, h1, by rw [ra.length]; exact h2, k _ y F _ _ st ry q⟩
def dPop (to : DTE) : DTE := dBM0 rPopD to
theorem de_pop (ho : DE X Y o to) (hbase : attributeBase o "pop" X.env (eval o X.env) = eval o X.env := by rfl) (hline : (apos.endLine == cpos.line) = true := by rfl) : DE X Y (.Call (.Attribute o "pop" apos) [] [] cpos) (dPop to) :=
  de_bm0 PySem.F.slot_list_pop PySem.F.type_list_pop md_pop ho hbase hline
def rPopAtD : DL.D → List DL.D → Mp → DK → Prop := fun x ds M Q => ∃ a xs i j y, x = .ref a ∧ ds = [.int i] ∧ M a = some (.lst xs) ∧ ixN xs.length i = some j ∧ -(2 ^ 62) < i ∧ i < 2 ^ 62 ∧ xs[j]? = some y ∧ Q y (mu M a (.lst (xs.eraseIdx j)))
theorem md_popAt : MtR X "list.pop" (canMt Y rPopAtD) := by
  intro pins s σ H x vs v us Q0 I rx rv ⟨F, M, d, ds, Q, r1, r2, rl, ⟨a, xs, i, j, y, e1, e2, hm, hj, h3, h4, hy, q⟩, k⟩
  subst e1 e2
  cases r1
  obtain ⟨vi, rfl, ri⟩ := rp1 r2
  cases ri
  obtain ⟨ws, h1, ra⟩ := rl.lst hm
  obtain ⟨vy, h2, ry⟩ := ra.get hy
  have st := rl.set hm (xs := (ws.eraseIdx j)) (ds := (xs.eraseIdx j)) (ra.eraseIdx j)
  have hj' := ixN_seq hj
  exact mt_popAt pins s σ H _ _ v us Q0 I rx rv ⟨a, ws, i, j, vy, rfl, rfl, h1, by omega, by omega, by rw [ra.length]; exact hj'.1, h2, k _ y F _ _ st ry q⟩
def dPopAt (to te : DTE) : DTE := dBM rPopAtD to (dCons te dNil)
theorem de_popAt {te : DTE} (ho : DE X Y o to) (he : DE X Y e te) (hs : starEach [e] X.env = (false, eval e X.env) :: starEach [] X.env := by rfl) (hbase : attributeBase o "pop" X.env (eval o X.env) = eval o X.env := by rfl) (hline : (apos.endLine == cpos.line) = true := by rfl)
    (hfew : ((backTo cpos (starEach [e] X.env)).all (fun x => !x.1) && (backToKw cpos (keywordEach [] X.env)).all (fun x => x.1.isSome)
      && decide (([e] : List Expr).length + ([] : List Keyword).length + (if ([] : List Keyword).isEmpty then 0 else 1) < 30)) = true := by rfl) :
    DE X Y (.Call (.Attribute o "pop" apos) [e] [] cpos) (dPopAt to te) :=
  de_bm PySem.F.slot_list_pop PySem.F.type_list_pop md_popAt ho (da_cons he da_nil hs) hbase hfew hline hs rfl

/-! ### texts' methods, -x, ** -/
def dUpper (to : DTE) : DTE := fun ρ M Q => to ρ M fun x M1 => ∃ a, x = .str a ∧ a.length ≤ 5592405 ∧ Q (.str (Txt.upper a)) M1
theorem de_upper (ho : DE X Y o to) (hbase : attributeBase o "upper" X.env (eval o X.env) = eval o X.env := by rfl) (hline : (apos.endLine == cpos.line) = true := by rfl) : DE X Y (.Call (.Attribute o "upper" apos) [] [] cpos) (dUpper to) := by
  refine PE.weak (pe_upper ho hbase hline) ?_
  rintro σ H Q0 ⟨F, M, ρ, Q, rs, rl, q, k⟩
  refine ⟨F, M, ρ, _, rs, rl, q, fun v d F1 M1 H1 s1 rp1 ⟨a, e1, hl, q1⟩ => ?_⟩
  subst e1
  cases rp1
  exact ⟨⟨a, rfl⟩, a, rfl, rfl, hl, k _ _ F1 M1 H1 s1 (.str _) q1⟩
def dJoin (to te : DTE) : DTE := fun ρ M Q => to ρ M fun x M1 => ∃ a, x = .str a ∧ te ρ M1 fun y M2 => ∃ ss : List Str, seqOf M2 y = some (ss.map D.str) ∧ (ss.map (·.length)).sum + ss.length * a.length ≤ 16777216 ∧ Q (.str (Txt.join a ss)) M2
theorem de_join {te : DTE} (ho : DE X Y o to) (he : DE X Y e te) (hs : starEach [e] X.env = [(false, eval e X.env)] := by rfl) (hbase : attributeBase o "join" X.env (eval o X.env) = eval o X.env := by rfl) (hline : (apos.endLine == cpos.line) = true := by rfl) :
    DE X Y (.Call (.Attribute o "join" apos) [e] [] cpos) (dJoin to te) := by
  refine PE.weak (pe_join ho he hs hbase hline) ?_
  rintro σ H Q0 ⟨F, M, ρ, Q, rs, rl, q, k⟩
  refine ⟨F, M, ρ, _, rs, rl, q, fun v d F1 M1 H1 s1 rp1 ⟨a, e1, q1⟩ => ?_⟩
  subst e1
  cases rp1
  refine ⟨⟨a, rfl⟩, F1, M1, ρ, _, rs.mono s1.same, s1.rel, q1, fun v2 d2 F2 M2 H2 s2 rp2 ⟨ss, e2, hz, q2⟩ => ?_⟩
  obtain ⟨p, ws, rfl, h1, ra⟩ := seqOf_rp s2.rel rp2 e2
  rw [rp_strs ra] at h1
  exact ⟨a, p, ss, rfl, rfl, h1, hz, k _ _ F2 M2 H2 (s1.trans s2) (.str _) q2⟩
def dNeg (te : DTE) : DTE := fun ρ M Q => te ρ M fun x M1 => ∃ i, x = .int i ∧ Q (.int (-i)) M1
theorem de_neg {te : DTE} (he : DE X Y e te) : DE X Y (.UnaryOp .USub e pos) (dNeg te) := by
  refine PE.weak (pe_un un_neg he) ?_
  rintro σ H Q0 ⟨F, M, ρ, Q, rs, rl, q, k⟩
  refine ⟨F, M, ρ, _, rs, rl, q, fun v d F1 M1 H1 s1 rp1 ⟨i, e1, q1⟩ => ?_⟩
  subst e1
  cases rp1
  exact ⟨i, rfl, k _ _ F1 M1 H1 s1 (.int _) q1⟩
def rPowD : RD2 := fun x y M Q => ∃ i j, x = .int i ∧ y = .int j ∧ ((0 ≤ j ∧ j ≤ 1000000 ∧ i.natAbs < 2 ^ 64) ∨ (0 ≤ j ∧ (Builtin.Int.intBits i : Int) * j ≤ 2 ^ 27)) ∧ Q (.int (i ^ j.toNat)) M
theorem od_pows : OpD X Y (binaryOp .Pow) rPowD := by
  intro pins s σ H x y v u Q0 I rx ry ⟨F, M, d, e, Q, r1, r2, rl, ⟨i, j, e1, e2, c, q⟩, k⟩
  rcases c with c | c
  · exact od_pow pins s σ H x y v u Q0 I rx ry ⟨F, M, d, e, Q, r1, r2, rl, ⟨i, j, e1, e2, c, q⟩, k⟩
  · exact od_powW pins s σ H x y v u Q0 I rx ry ⟨F, M, d, e, Q, r1, r2, rl, ⟨i, j, e1, e2, c, q⟩, k⟩

/-! ### repr -/
mutual
theorem py_noDict : ∀ (d : DL.D) (p : PyData), d.py = some p → p.hasDict = false
  | .non, _, h => by simp only [D.py] at h; cases h; rfl
  | .bl b, _, h => by simp only [D.py] at h; cases h; rfl
  | .int i, _, h => by simp only [D.py] at h; cases h; rfl
  | .str x, _, h => by simp only [D.py] at h; cases h; rfl
  | .ref a, _, h => by simp only [D.py] at h; cases h
  | .tup xs, _, h => by
    simp only [D.py] at h
    split at h
    · rename_i ps e; cases h; simp only [PyData.hasDict]; exact pyAll_noDict xs ps e
    · cases h
  | .lst xs, _, h => by
    simp only [D.py] at h
    split at h
    · rename_i ps e; cases h; simp only [PyData.hasDict]; exact pyAll_noDict xs ps e
    · cases h
  | .slst xs, _, h => by
    simp only [D.py] at h
    split at h
    · rename_i ps e; cases h; simp only [PyData.hasDict]; exact pyAll_noDict xs ps e
    · cases h
theorem pyAll_noDict : ∀ (ds : List DL.D) (ps : List PyData), pyAll ds = some ps → PyData.hasDictAll ps = false
  | [], _, h => by simp only [pyAll] at h; cases h; rfl
  | d :: ds, _, h => by
    simp only [pyAll] at h
    split at h
    · rename_i p ps e1 e2
      cases h
      simp only [PyData.hasDictAll, py_noDict d p e1, pyAll_noDict ds ps e2, Bool.or_self]
    · cases h
end
theorem pyM_noDict {M : Mp} {d : DL.D} {p : PyData} (h : pyM M d = some p) : p.hasDict = false := by
  unfold pyM at h
  split at h
  · split at h
    · split at h
      · rename_i ps e
        cases h
        simp only [PyData.hasDict]
        exact pyAll_noDict _ _ e
      · cases h
    · cases h
  · exact py_noDict _ _ h
def rReprD : RDL := fun ds M Q => ∃ d p, ds = [d] ∧ pyM M d = some p ∧ p.showable = true ∧ p.depth ≤ 62 ∧ p.shown.length ≤ sizeLine ∧ Q (.str p.shown) M
theorem cd_repr {n : Nat} (hr : Room n X.A) (gu : X.A.guards = some []) : CallD X Y (.builtin "repr") rReprD := by
  intro pins s σ H vs us Q0 I r ⟨F, M, ds, Q, rp, rl, ⟨d, p, e, e1, h1, h2, h3, q⟩, k⟩
  subst e
  obtain ⟨v, rfl, r1⟩ := rp1 rp
  obtain ⟨u, rfl, ru⟩ := vals1 r
  obtain ⟨as, rd⟩ := Dp.reads I p v u (pyM_dp rl r1 e1) ru
  have nd := pyM_noDict e1
  have fin : ∀ (h' : Heap) (t tk : Tok), (∀ b o, s.heap.get? b = some o → h'.get? b = some o) → EP X pins σ Q0 (.str p.shown t) { s with heap := h', toks := tk } :=
    fun h' t tk hk => ⟨.str p.shown, H, I.kept hk, ⟨t, rfl⟩, k _ _ F M H (Stp.refl rl) (.str _) q⟩
  have un := hr.units
  cases rd with
  | none => exact PySem.P.repr_of_none (fin s.heap _ _ fun _ _ z => z)
  | bool b => exact PySem.P.repr_of_bool (fin s.heap _ _ fun _ _ z => z)
  | int i t => exact PySem.P.repr_of_int (by simpa [PyData.showable] using h1) (fin s.heap _ _ fun _ _ z => z)
  | str x t => exact PySem.P.repr_of_str (fin s.heap _ _ fun _ _ z => z) h3
  | list a1 a2 a3 a4 => exact PySem.repr_of_reads' (.list a1 a2 a3 a4) h1 (fun z => by rw [nd] at z; cases z) gu (by omega) (fun _ _ z => z) (fun h' u tk hk => fin h' u tk hk) h3
  | tuple a1 a2 a3 a4 => exact PySem.repr_of_reads' (.tuple a1 a2 a3 a4) h1 (fun z => by rw [nd] at z; cases z) gu (by omega) (fun _ _ z => z) (fun h' u tk hk => fin h' u tk hk) h3
  | dict => simp [PyData.hasDict] at nd
end
end DL

/-! DL7: zip, list(range), list(text). -/
namespace DL
open PySem PySem.Spec L2
open PyProof.Rows hiding St

section
variable {X : Cx} {Y : KJ X.K} {pos p tpos : Pos} {e e2 : Expr} {t u : DTE} {elts : List Expr} {kk : Nat}
/-! ### zip of two lists -/
def pairs (xs ys : List DL.D) : List DL.D := (xs.zip ys).map fun p => .tup [p.1, p.2]
theorem pairs_get {xs ys : List DL.D} {i : Nat} {d : DL.D} (h : (pairs xs ys)[i]? = some d) : ∃ x y, xs[i]? = some x ∧ ys[i]? = some y ∧ d = .tup [x, y] := by
  unfold pairs at h
  rw [List.getElem?_map] at h
  cases e : (xs.zip ys)[i]? with
  | none => rw [e] at h; cases h
  | some q =>
    rw [e] at h
    cases h
    rw [List.getElem?_zip_eq_some] at e
    exact ⟨q.1, q.2, e.1, e.2, rfl⟩
theorem jw_pair {K : PySem.W.Frag} {Y : KJ K} {F F1 : Hp} {M1 : Mp} {H1 H2 : Hp} {x y : V} {d d' : DL.D} {T : Addr} (s : Same F F1) (r : Rel Y F1 M1 H1) (h1 : Rp K F1 x d) (h2 : Rp K F1 y d') (hT : H1 T = none) (e : H2 = upd H1 T (.tup [x, y])) :
    ∃ F2, Stp Y F1 M1 H1 F2 M1 H2 ∧ Rp K F2 (.ref T) (.tup [d, d']) := by
  subst e
  have st := r.newF hT (.tup [x, y])
  exact ⟨_, st, .tup (.inl (.inl upd_same)) (.cons (h1.mono st.same) (.cons (h2.mono st.same) .nil))⟩
def dZipL (t u : DTE) : DTI := fun ρ M R => t ρ M fun d M1 => u ρ M1 fun d' M2 => ∃ xs ys, lstOf M2 d = some xs ∧ lstOf M2 d' = some ys ∧ R (pairs xs ys) (fun M => lstOf M d = some xs ∧ lstOf M d' = some ys) M2
theorem di_zipL (hm : X.mg "zip" = none) (he : DE X Y e t) (he2 : DE X Y e2 u) (hg : Gl X "zip" := by rfl) (hs : starEach [e, e2] X.env = (false, eval e X.env) :: starEach [e2] X.env := by rfl) (hs2 : starEach [e2] X.env = (false, eval e2 X.env) :: starEach [] X.env := by rfl)
    (hpl : (backTo pos (starEach [e2] X.env)).any (·.1) = false := by rfl) : DI X Y (.Tuple elts kk tpos) (.Call (.Name "zip" p) [e, e2] [] pos) (dZipL t u) := by
  refine PI.weak (pi_zip hg hm (pa_cons he (pa_cons he2 pa_nil hs2) hs) hs hpl) ?_
  rintro σ H R0 ⟨F, M, ρ, R, rs, rl, q, k⟩
  refine ⟨F, M, ρ, _, rs, rl, q, fun v d F1 M1 H1 s1 rp1 q1 => ?_⟩
  refine ⟨F1, M1, ρ, _, rs.mono s1.same, s1.rel, q1, fun v2 d2 F2 M2 H2 s2 rp2 ⟨xs, ys, ex, ey, q2⟩ => ?_⟩
  have r1 := rp1.mono s2.same
  obtain ⟨a, vs, rfl, h1, _⟩ := lstOf_rp s2.rel r1 ex
  obtain ⟨b, ws, rfl, h2, _⟩ := lstOf_rp s2.rel rp2 ey
  refine ⟨a, b, vs, ws, rfl, h1, h2, k _ (pairs xs ys) (fun M => lstOf M d = some xs ∧ lstOf M d2 = some ys) F2 M2 H2 (s1.trans s2) ⟨fun F3 M3 H3 s3 r3 g => ?_⟩ q2⟩
  obtain ⟨a', vs', ea, g1, ra⟩ := lstOf_rp r3 (r1.mono s3) g.1
  obtain ⟨b', ws', eb, g2, rb⟩ := lstOf_rp r3 (rp2.mono s3) g.2
  cases ea
  cases eb
  have W := walk_zip (K := X.K) (a := a) (b := b) (xs := vs') (ys := ws') rfl
  have hl : (pairs xs ys).length = min vs'.length ws'.length := by unfold pairs; rw [List.length_map, List.length_zip, ra.length, rb.length]
  refine ⟨by rw [hl]; exact W.stops H3 ⟨g1, g2⟩, fun i dd hi => ?_⟩
  have hlt : i < min vs'.length ws'.length := by rw [← hl]; exact (List.getElem?_eq_some_iff.mp hi).1
  obtain ⟨x, y, hx, hy, rfl⟩ := pairs_get hi
  refine ⟨W.goes i H3 hlt ⟨g1, g2⟩, fun vv H4 yy => ?_⟩
  obtain ⟨T, x1, y1, rfl, hT, eH, hx1, hy1⟩ := W.yields i H3 vv H4 hlt ⟨g1, g2⟩ yy
  obtain ⟨vx, ex1, rx⟩ := ra.get hx
  obtain ⟨vy, ey1, ry⟩ := rb.get hy
  have hx1 : vs'[i]? = some x1 := hx1
  have hy1 : ws'[i]? = some y1 := hy1
  rw [ex1] at hx1
  rw [ey1] at hy1
  cases hx1
  cases hy1
  exact jw_pair s3 r3 rx ry hT eH

/-! ### zip of two texts -/
def ItzS (x y : Str) : It := ⟨fun i _ => i < x.cps.size ∧ i < y.cps.size,
  fun i H v H' => ∃ T cx cy, v = .ref T ∧ H T = none ∧ H' = upd H T (.tup [.str ⟨#[cx]⟩, .str ⟨#[cy]⟩]) ∧ x.cps[i]? = some cx ∧ y.cps[i]? = some cy,
  fun i _ => i = min x.cps.size y.cps.size⟩
theorem turn_zipS {P : Program} {w : World} {K : PySem.W.Frag} {z TI TO i1 i2 : Addr} {x y : Str} {t1 t2 : Tok} (S : ZipSep2 z TI TO i1 i2 [i1] [i2]) :
    Turn P w K (.Tuple elts kk tpos) (ItzS x y) [z, TI, TO, i1, i2] z (fun i h => IsZip h z TI TO .none ∧ IsTupOf2 h TI (.ref i1) (.ref i2) ∧ (∃ a b, IsTupOf2 h TO a b) ∧ h.IsStrIter i1 (strIterType x) x t1 i ∧ h.IsStrIter i2 (strIterType y) y t2 i) where
  mem := by simp
  obj := fun i h st c hc => by
    obtain ⟨hz, hTI, ⟨a, b, hTO⟩, ⟨o1, e1, _, d1⟩, ⟨o2, e2, _, d2⟩⟩ := st
    have e' : c = z ∨ c = TI ∨ c = TO ∨ c = i1 ∨ c = i2 := by simpa using hc
    rcases e' with q | q | q | q | q
    · rw [q]; exact ⟨_, hz, fun v q => nomatch q⟩
    · rw [q]; exact ⟨_, hTI, fun v q => nomatch q⟩
    · rw [q]; exact ⟨_, hTO, fun v q => nomatch q⟩
    · rw [q]; exact ⟨o1, e1, fun v q => by rw [d1] at q; cases q⟩
    · rw [q]; exact ⟨o2, e2, fun v q => by rw [d2] at q; cases q⟩
  keep := fun i h h' st kp => by
    obtain ⟨hz, hTI, ⟨a, b, hTO⟩, ⟨o1, e1, c1⟩, ⟨o2, e2, c2⟩⟩ := st
    exact ⟨kp z (by simp) _ hz, kp TI (by simp) _ hTI, ⟨a, b, kp TO (by simp) _ hTO⟩, ⟨o1, kp i1 (by simp) o1 e1, c1⟩, ⟨o2, kp i2 (by simp) o2 e2, c2⟩⟩
  item := by
    intro X hP hw hK hc i pins s σ H E I hf st hg
    subst hP hw hK
    obtain ⟨hz, hTI, ⟨a0, b0, hTO⟩, h1, h2⟩ := st
    have D1 := Draws.text (prog := X.prog) (w := X.w) (A := X.A.in1) (I.ok.hd hc) i1 x t1
    have D2 := Draws.text (prog := X.prog) (w := X.w) (A := X.A.in1) (I.ok.hd hc) i2 y t2
    have hzl : z < s.heap.objs.size := Heap.lt_size hz
    refine wpAny_pyNext_zipD2_item S D1 D2 hz hTI hTO h1 h2 hg.1 hg.2 fun v1 v2 h' tk p1 p2 z' TO' h1' h2' hT hsz hk => ?_
    obtain ⟨cx, u1, hx, rfl⟩ := p1
    obtain ⟨cy, u2, hy, rfl⟩ := p2
    refine ⟨_, rfl, wpAny_letOwnedTupleGo_zip (s := { s with heap := h', toks := tk }) z' fun h'' z'' sb => ?_⟩
    have hT2 : IsTupOf2 h'' s.heap.objs.size (.str ⟨#[cx]⟩ u1) (.str ⟨#[cy]⟩ u2) := (sb.2 _ (Nat.ne_of_gt hzl)).trans hT
    have new : ObjOk X.prog X.w (upd H s.heap.objs.size (.tup [.str ⟨#[cx]⟩, .str ⟨#[cy]⟩])) h'' s.heap.objs.size (.tup [.str ⟨#[cx]⟩, .str ⟨#[cy]⟩]) :=
      ⟨by show 2 ≤ sizeLine; decide, [.str ⟨#[cx]⟩ u1, .str ⟨#[cy]⟩ u2], .cons ⟨u1, rfl⟩ (.cons ⟨u2, rfl⟩ .nil), ⟨_, hT2, rfl, _, rfl⟩⟩
    have I1 : Inv X pins σ (upd H s.heap.objs.size (.tup [.str ⟨#[cx]⟩, .str ⟨#[cy]⟩])) { s with heap := h'', toks := tk } :=
      I.turnedNew (t' := tk) (ch := [z, TI, TO, i1, i2]) (fun c o hb q => (sb.2 c (fun q' => hb (by simp [q']))).trans (hk c o (fun q' => hb (by simp [q'])) (fun q' => hb (by simp [q'])) (fun q' => hb (by simp [q'])) (fun q' => hb (by simp [q'])) q)) hf (Nat.le_refl _) new
    refine ⟨.ref s.heap.objs.size, _, I1, rfl, ⟨_, cx, cy, rfl, I.hok.fresh (Nat.le_refl _), rfl, hx, hy⟩, ⟨z'', ?_, ⟨_, _, (sb.2 _ S.TOz).trans TO'⟩, ?_, ?_⟩, fun c hcm => ?_⟩
    · exact (sb.2 _ S.TIz).trans (hk _ _ S.TIz S.TITO S.TIi1 S.TIi2 hTI)
    · obtain ⟨o1, e1, c1⟩ := h1'
      exact ⟨o1, (sb.2 _ (fun q => S.zi1 q.symm)).trans e1, c1⟩
    · obtain ⟨o2, e2, c2⟩ := h2'
      exact ⟨o2, (sb.2 _ (fun q => S.zi2 q.symm)).trans e2, c2⟩
    · have hlt : c < s.heap.objs.size := by
        have e' : c = z ∨ c = TI ∨ c = TO ∨ c = i1 ∨ c = i2 := by simpa using hcm
        rcases e' with q | q | q | q | q
        · rw [q]; exact hzl
        · rw [q]; exact Heap.lt_size hTI
        · rw [q]; exact Heap.lt_size hTO
        · rw [q]; obtain ⟨_, e1, _⟩ := h1; exact Heap.lt_size e1
        · rw [q]; obtain ⟨_, e2, _⟩ := h2; exact Heap.lt_size e2
      rw [upd_ne (Nat.ne_of_lt hlt)]
      exact (hf c hcm).1
  done := by
    intro X hP hw hK hc i pins s σ H E I hf st hg
    subst hP hw hK
    obtain ⟨hz, hTI, ⟨a0, b0, hTO⟩, h1, h2⟩ := st
    have D1 := Draws.text (prog := X.prog) (w := X.w) (A := X.A.in1) (I.ok.hd hc) i1 x t1
    have D2 := Draws.text (prog := X.prog) (w := X.w) (A := X.A.in1) (I.ok.hd hc) i2 y t2
    have hg' : i = min x.cps.size y.cps.size := hg
    refine wpAny_pyNext_zipD2_end S D1 D2 hz hTI hTO h1 h2 (by omega) (by omega) (by omega) fun h' tk hk => ⟨rfl, I.turnedL (t' := tk) (ch := [z, TI, TO, i1, i2]) (fun c o hb q =>
      hk c o (fun q' => hb (by simp [q'])) (fun q' => hb (by simp [q'])) (fun q' => hb (by simp [q'])) (fun q' => hb (by simp [q'])) q) hf⟩
  self := fun A i s Q E st h => wpAny_pyIter_zip st.1 h
def iZipS (ta : TA) : TI := fun σ H R => ta σ H fun vs H1 => ∃ x y, vs = [.str x, .str y] ∧ R (ItzS x y) H1
theorem pi_zipS {ta : TA} (hg : Gl X "zip") (hm : X.mg "zip" = none) (ha : PA X [e, e2] ta)
    (hs : starEach [e, e2] X.env = (false, eval e X.env) :: starEach [e2] X.env) (hpl : (backTo pos (starEach [e2] X.env)).any (·.1) = false) :
    PI X (.Tuple elts kk tpos) (.Call (.Name "zip" p) [e, e2] [] pos) (iZipS ta) := by
  constructor
  intro pins s σ H R I h
  refine Call_ (ld_blt I hg hm PyProof.Rows.boot_zip (PyProof.Rows.callWith_type1 (thn (ha.run pos pins s σ H _ I h) ?_) hs hpl))
  rintro us s1 ⟨vs, H1, I1, r1, x, y, rfl, q⟩
  obtain ⟨u1, u2, rfl, ⟨t1, rfl⟩, ⟨t2, rfl⟩⟩ := vals2 r1
  refine zip_begins2 (begins_text x t1) (begins_text y t2) trivial trivial fun h' hz hTI hTO g1 g2 hsz hk => wpAny_pyIter_zip hz ?_
  have I2 : Inv X pins σ H1 { s1 with heap := h' } := I1.kept (t' := s1.toks) hk
  refine ⟨s1.heap.objs.size + 4, [s1.heap.objs.size + 4, s1.heap.objs.size + 2, s1.heap.objs.size + 3, s1.heap.objs.size, s1.heap.objs.size + 1], _, _, H1, rfl, I2, turn_zipS (zip_sep2 (N := s1.heap.objs.size) (fp1 := []) (fp2 := []) (fun _ z => nomatch z) (fun _ z => nomatch z)), ⟨hz, hTI, ⟨_, _, hTO⟩, ⟨_, g1, rfl, rfl⟩, ⟨_, g2, rfl, rfl⟩⟩, fun c hcm => ?_, q⟩
  have e' : c = s1.heap.objs.size + 4 ∨ c = s1.heap.objs.size + 2 ∨ c = s1.heap.objs.size + 3 ∨ c = s1.heap.objs.size ∨ c = s1.heap.objs.size + 1 := by simpa using hcm
  have hle : s1.heap.objs.size ≤ c := by
    rcases e' with z | z | z | z | z
    · rw [z]; exact Nat.le_add_right _ _
    · rw [z]; exact Nat.le_add_right _ _
    · rw [z]; exact Nat.le_add_right _ _
    · rw [z]; exact Nat.le_refl _
    · rw [z]; exact Nat.le_add_right _ _
  exact I1.fpOk hle (I1.hok.fresh hle)
def dZipS (t u : DTE) : DTI := fun ρ M R => t ρ M fun d M1 => u ρ M1 fun d' M2 => ∃ x y, d = .str x ∧ d' = .str y ∧ R (pairs (signs x) (signs y)) (fun _ => True) M2
theorem di_zipS (hm : X.mg "zip" = none) (he : DE X Y e t) (he2 : DE X Y e2 u) (hg : Gl X "zip" := by rfl) (hs : starEach [e, e2] X.env = (false, eval e X.env) :: starEach [e2] X.env := by rfl) (hs2 : starEach [e2] X.env = (false, eval e2 X.env) :: starEach [] X.env := by rfl)
    (hpl : (backTo pos (starEach [e2] X.env)).any (·.1) = false := by rfl) : DI X Y (.Tuple elts kk tpos) (.Call (.Name "zip" p) [e, e2] [] pos) (dZipS t u) := by
  refine PI.weak (pi_zipS hg hm (pa_cons he (pa_cons he2 pa_nil hs2) hs) hs hpl) ?_
  rintro σ H R0 ⟨F, M, ρ, R, rs, rl, q, k⟩
  refine ⟨F, M, ρ, _, rs, rl, q, fun v d F1 M1 H1 s1 rp1 q1 => ?_⟩
  refine ⟨F1, M1, ρ, _, rs.mono s1.same, s1.rel, q1, fun v2 d2 F2 M2 H2 s2 rp2 ⟨x, y, ex, ey, q2⟩ => ?_⟩
  subst ex ey
  cases rp1
  cases rp2
  refine ⟨x, y, rfl, k _ _ _ F2 M2 H2 (s1.trans s2) ⟨fun F3 M3 H3 s3 r3 g => ?_⟩ q2⟩
  have hl : (pairs (signs x) (signs y)).length = min x.cps.size y.cps.size := by unfold pairs signs; simp
  refine ⟨hl, fun i dd hi => ?_⟩
  have hlt : i < min x.cps.size y.cps.size := by rw [← hl]; exact (List.getElem?_eq_some_iff.mp hi).1
  obtain ⟨a, b, ha, hb, rfl⟩ := pairs_get hi
  refine ⟨⟨by omega, by omega⟩, fun vv H4 yy => ?_⟩
  obtain ⟨T, cx, cy, rfl, hT, eH, hx, hy⟩ := yy
  unfold signs at ha hb
  rw [List.getElem?_map, Array.getElem?_toList, hx] at ha
  rw [List.getElem?_map, Array.getElem?_toList, hy] at hb
  cases ha
  cases hb
  exact jw_pair s3 r3 (.str _) (.str _) hT eH

/-! ### list(range(n)) -/
def dListRg (fz : Bool) (t : DTE) : DTE := fun ρ M Q => t ρ M fun d M1 => ∃ j, d = .int j ∧ 0 ≤ j ∧ j ≤ 16777216 ∧ newL fz (rgD 0 j.toNat) M1 Q
theorem rgV_rp {K : PySem.W.Frag} {F : Hp} (j : Int) : RpAll K F (L2.rgV 0 j) (rgD 0 j.toNat) := by
  have g : ∀ n : Nat, ∀ f : Nat → Int, RpAll K F ((List.range n).map fun i => V.int (f i)) ((List.range n).map fun i => D.int (f i)) := by
    intro n
    induction n with
    | zero => intro f; exact .nil
    | succ n ih =>
      intro f
      rw [List.range_succ_eq_map, List.map_cons, List.map_cons, List.map_map, List.map_map]
      exact .cons (.int _) (ih fun i => f (i + 1))
  have := g j.toNat fun i => 0 + (i : Nat)
  unfold L2.rgV rgD
  rw [show (j - 0).toNat = j.toNat by omega]
  exact this
theorem de_listRg (fz : Bool) {p1 p2 : Pos} (m1 : X.mg "list" = none) (m2 : X.mg "range" = none) (he : DE X Y e t) (hc : X.calm = true := by rfl) (g1 : Gl X "list" := by rfl) (g2 : Gl X "range" := by rfl)
    (na : starEach [e] X.env = (false, eval e X.env) :: starEach [] X.env := by rfl) (na2 : starEach [.Call (.Name "range" p1) [e] [] p2] X.env = (false, eval (.Call (.Name "range" p1) [e] [] p2) X.env) :: starEach [] X.env := by rfl) :
    DE X Y (.Call (.Name "list" p) [.Call (.Name "range" p1) [e] [] p2] [] pos) (dListRg fz t) := by
  refine PE.weak (pe_listRg hc g1 m1 (prg_1 g2 m2 he na) na2) ?_
  rintro σ H Q0 ⟨F, M, ρ, Q, rs, rl, q, k⟩
  refine ⟨F, M, ρ, _, rs, rl, q, fun v d F1 M1 H1 s1 rp1 ⟨j, ed, h0, h1, q1⟩ => ?_⟩
  subst ed
  cases rp1
  refine ⟨j, rfl, RgOk.of_le (by omega) h1 (by omega) h0, fun l hl => ?_⟩
  exact newL_ok s1.rel (rgV_rp j) q1 (fun v d F' M' H' s => k v d F' M' H' (s1.trans s)) l hl
end
end DL

/-! DL9: sorted of texts, list(text), a constant dict, slices with a step. -/
namespace DL
open PySem PySem.Spec L2
open PyProof.Rows hiding St

section
variable {X : Cx} {Y : KJ X.K} {pos p p1 p2 p3 : Pos} {a b e : Expr} {t u : DTE}
/-- sorted(a list of texts), fewer than 64 -/
def rSortD (fz : Bool) : RDL := fun ds M Q => ∃ (d : DL.D) (xs : List Str), ds = [d] ∧ lstOf M d = some (xs.map DL.D.str) ∧ xs.length < 64 ∧
  ∀ ys : List Str, ys.Perm xs → sortedS ys = true → newL fz (ys.map DL.D.str) M Q
theorem cd_sort (fz : Bool) : CallD X Y (.builtin "sorted") (rSortD fz) := by
  intro pins s σ H vs us Q0 I r ⟨F, M, ds, Q, rp, rl, ⟨d, xs, e, e1, few, q⟩, k⟩
  subst e
  obtain ⟨v, rfl, r1⟩ := rp1 rp
  obtain ⟨l, ws, rfl, h1, ra⟩ := lstOf_rp rl r1 e1
  rw [rp_strs ra] at h1
  exact cr_sortedS pins s σ H _ us Q0 I r ⟨l, xs, rfl, h1, few, fun ys n pm so hn => newL_ok rl (of_strs ys) (q ys pm so) k n hn⟩
/-- list(a text) -/
def rListS (fz : Bool) : RDL := fun ds M Q => ∃ x : Str, ds = [.str x] ∧ x.cps.size ≤ sizeLine ∧ newL fz (signs x) M Q
theorem signs_rp {K : PySem.W.Frag} {F : Hp} (x : Str) : RpAll K F (x.cps.toList.map fun c => V.str ⟨#[c]⟩) (signs x) := by
  unfold signs
  generalize x.cps.toList = l
  induction l with
  | nil => exact .nil
  | cons c l ih => exact .cons (.str _) ih
theorem cd_listS (fz : Bool) (hc : X.calm = true) : CallD X Y (.type "list") (rListS fz) := by
  intro pins s σ H vs us Q0 I r ⟨F, M, ds, Q, rp, rl, ⟨x, e, small, q⟩, k⟩
  subst e
  obtain ⟨v, rfl, r1⟩ := rp1 rp
  cases r1
  obtain ⟨u, rfl, ⟨t, rfl⟩⟩ := vals1 r
  refine call_list_str (I.ok.hd hc) x t (hn := small) fun h' tk acc c keep at1 ⟨len, are⟩ => ?_
  have vals : Vals (x.cps.toList.map fun c => V.str ⟨#[c]⟩) acc.toList := by
    refine vals_of_at (by simp [len]) fun i v w hv hw => ?_
    rw [Array.getElem?_toList] at hw
    obtain ⟨c, t, hc, rfl⟩ := are i w hw
    rw [List.getElem?_map, Array.getElem?_toList, hc] at hv
    cases hv
    exact ⟨t, rfl⟩
  refine ⟨.ref _, upd H s.heap.objs.size (.lst (x.cps.toList.map fun c => V.str ⟨#[c]⟩)), I.laid (t' := tk) keep (Nat.le_refl _) ⟨?_, acc.toList, c, vals, ?_⟩, rfl, newL_ok rl (signs_rp x) q k _ (I.hok.fresh (Nat.le_refl _))⟩
  · rw [List.length_map, Array.length_toList]; exact small
  · exact at1
end
end DL

/-! DL10: slices with a step, a constant dict. -/
namespace DL
open PySem PySem.Spec L2
open PyProof.Rows hiding St

/-! ### lists -/
theorem fm_congr {α β : Type} {f g : α → Option β} : ∀ {l : List α}, (∀ k ∈ l, f k = g k) → l.filterMap f = l.filterMap g
  | [], _ => rfl
  | x :: l, h => by
    have ih := fm_congr (l := l) fun k hk => h k (List.mem_cons_of_mem _ hk)
    rw [List.filterMap_cons, List.filterMap_cons, h x List.mem_cons_self, ih]
/-- every other item, from the first -/
def ev {α : Type} : List α → List α
  | [] => []
  | [x] => [x]
  | x :: _ :: r => x :: ev r
theorem ev_pick {α : Type} : ∀ l : List α, ((List.range ((l.length + 1) / 2)).map fun k => 2 * k).filterMap (l[·]?) = ev l
  | [] => by simp [ev]
  | [x] => by simp [ev]
  | x :: y :: r => by
    have ih := ev_pick r
    have e : ((x :: y :: r).length + 1) / 2 = (r.length + 1) / 2 + 1 := by simp only [List.length_cons]; omega
    rw [e, List.range_succ_eq_map, List.map_cons, List.map_map, List.filterMap_cons]
    show x :: _ = x :: ev r
    rw [← ih, List.filterMap_map, List.filterMap_map]
    refine congrArg (x :: ·) (fm_congr fun k _ => ?_)
    show (x :: y :: r)[2 * (k + 1)]? = r[2 * k]?
    rw [show 2 * (k + 1) = 2 * k + 1 + 1 by omega, List.getElem?_cons_succ, List.getElem?_cons_succ]
theorem back_pick {α : Type} : ∀ l : List α, ((List.range l.length).map fun k => l.length - 1 - k).filterMap (l[·]?) = l.reverse := by
  intro l
  generalize hm : l.reverse = m
  have hl : l = m.reverse := by rw [← hm, List.reverse_reverse]
  subst hl
  clear hm
  induction m with
  | nil => rfl
  | cons x m ih =>
    rw [List.filterMap_map] at ih ⊢
    rw [List.length_reverse] at ih ⊢
    rw [List.length_cons, List.range_succ_eq_map, List.filterMap_cons, List.filterMap_map]
    have e0 : ((fun i => (x :: m).reverse[i]?) ∘ fun k => m.length + 1 - 1 - k) 0 = some x := by
      show (x :: m).reverse[m.length + 1 - 1 - 0]? = some x
      rw [List.reverse_cons, List.getElem?_append_right (by rw [List.length_reverse]; omega), List.length_reverse]
      simp
    rw [e0]
    refine congrArg (x :: ·) (Eq.trans (fm_congr fun k hk => ?_) ih)
    have hk' := List.mem_range.mp hk
    show (x :: m).reverse[m.length + 1 - 1 - (k + 1)]? = m.reverse[m.length - 1 - k]?
    rw [List.reverse_cons, List.getElem?_append_left (by rw [List.length_reverse]; omega)]
    exact congrArg (m.reverse[·]?) (by omega)
theorem rng_two (n : Nat) : sliceRange 0 (n : Int) 2 = (List.range ((n + 1) / 2)).map fun k => 2 * k := by
  unfold sliceRange
  by_cases h : (0 : Int) < (n : Int)
  · have e : (((n : Int) - 0 + 2 - 1) / 2).toNat = (n + 1) / 2 := by omega
    simp only [show (2 : Int) > 0 from by decide, if_true, h, e]
    exact List.map_congr_left fun k _ => by omega
  · obtain rfl : n = 0 := by omega
    simp
theorem rng_odd (n : Nat) : sliceRange (min 1 (n : Int)) (n : Int) 2 = (List.range (((n - 1) + 1) / 2)).map fun k => 2 * k + 1 := by
  unfold sliceRange
  by_cases h : (1 : Int) < (n : Int)
  · have e1 : min (1 : Int) (n : Int) = 1 := by omega
    have e : (((n : Int) - 1 + 2 - 1) / 2).toNat = (n - 1 + 1) / 2 := by omega
    rw [e1]
    simp only [show (2 : Int) > 0 from by decide, if_true, h, e]
    exact List.map_congr_left fun k _ => by omega
  · rcases (show n = 0 ∨ n = 1 by omega) with rfl | rfl <;> rfl
theorem rng_back (n : Nat) : sliceRange ((n : Int) - 1) (-1) (-1) = (List.range n).map fun k => n - 1 - k := PySem.W.krv_sliceRange n
theorem pick_ev (its : Array Value) : slicePick its none none (some 2) = (ev its.toList).toArray := by
  have b : sliceBounds none none (some 2) its.size = (0, (its.size : Int), 2) := by first | rfl | simp [sliceBounds]
  unfold slicePick
  rw [b]
  show ((sliceRange 0 (its.size : Int) 2).filterMap (its[·]?)).toArray = _
  rw [rng_two, ← ev_pick its.toList, Array.length_toList]
  simp only [Array.getElem?_toList]
theorem pick_od (its : Array Value) : slicePick its (some 1) none (some 2) = (ev its.toList.tail).toArray := by
  have b : sliceBounds (some 1) none (some 2) its.size = (min 1 (its.size : Int), (its.size : Int), 2) := by
    simp only [sliceBounds]
    first | rfl | (simp; omega) | simp
  unfold slicePick
  rw [b]
  show ((sliceRange (min 1 (its.size : Int)) (its.size : Int) 2).filterMap (its[·]?)).toArray = _
  have l : its.toList.tail.length = its.size - 1 := by simp
  rw [rng_odd, ← ev_pick its.toList.tail, l, List.filterMap_map, List.filterMap_map]
  refine congrArg _ (fm_congr fun k _ => ?_)
  show its[2 * k + 1]? = its.toList.tail[2 * k]?
  rw [List.getElem?_tail, Array.getElem?_toList]
theorem RpAll.ev {K : PySem.W.Frag} {F : Hp} : ∀ {vs : List V} {ds : List DL.D}, RpAll K F vs ds → RpAll K F (DL.ev vs) (DL.ev ds)
  | _, _, .nil => .nil
  | _, _, .cons h .nil => .cons h .nil
  | _, _, .cons h (.cons _ t) => .cons h (RpAll.ev t)
theorem vals_ev : ∀ {vs : List V} {us : List Value}, Vals vs us → Vals (DL.ev vs) (DL.ev us)
  | _, _, .nil => .nil
  | _, _, .cons h .nil => .cons h .nil
  | _, _, .cons h (.cons _ t) => .cons h (vals_ev t)
theorem ev_length {α : Type} : ∀ l : List α, (ev l).length = (l.length + 1) / 2
  | [] => by simp [ev]
  | [_] => by simp [ev]
  | _ :: _ :: r => by
    show (ev r).length + 1 = (r.length + 1 + 1 + 1) / 2
    rw [ev_length r]; omega
theorem ev_mem {α : Type} {x : α} : ∀ {l : List α}, x ∈ ev l → x ∈ l
  | [], h => h
  | [_], h => h
  | y :: _ :: r, h => by
    cases List.mem_cons.mp h with
    | inl e => rw [e]; exact List.mem_cons_self
    | inr e => exact List.mem_cons_of_mem _ (List.mem_cons_of_mem _ (ev_mem e))
theorem vals_tail {vs : List V} {us : List Value} (h : Vals vs us) : Vals vs.tail us.tail := by
  cases h with
  | nil => exact .nil
  | cons a b => exact b
theorem RpAll.tail {K : PySem.W.Frag} {F : Hp} {vs : List V} {ds : List DL.D} (h : RpAll K F vs ds) : RpAll K F vs.tail ds.tail := by
  cases h with
  | nil => exact .nil
  | cons a b => exact b

/-! ### the slice -/
section
variable {X : Cx} {Y : KJ X.K} {pos p p1 p2 p3 : Pos} {a b e st : Expr} {t u : DTE} {lo hi : Option Expr}
/-- what holds of x[lo:hi:st] when its parts are known -/
def Sl3R (X : Cx) (l h k : Option Int) (r : V → Hp → VK → Prop) : Prop :=
  ∀ (pins : List (Addr × Obj)) (s : Shared) (σ : St) (H : Hp) (x : V) (v vl vu vs : Value) (sl : Addr) (Q : VK), Inv X pins σ H s → RelV x v → s.heap.IsSliceOf sl vl vu vs → IsPart vl l → IsPart vu h → IsPart vs k → r x H Q →
    ∃ T id, typeLookup (.type T) "__getitem__" = pure (some (.builtin id)) ∧ s.TypeIs v T ∧ wpAny (model X.prog X.w) X.A (getItem v (.ref sl)) (EP X pins σ Q) X.xe s
theorem pe_slice3 {l h : Option Int} {k : Int} {r : V → Hp → VK → Prop} {te : TE} (hr : Sl3R X l h (some k) r) (he : PE X e te) (hl : PO X lo (fun _ H Q => Q l H)) (hu : PO X hi (fun _ H Q => Q h H)) (hs : PO X (some st) (fun _ H Q => Q (some k) H)) :
    PE X (.Subscript e (.Slice lo hi (some st) p2) pos) (fun σ H Q => te σ H fun x H1 => r x H1 Q) := by
  refine ⟨fun pins s σ H Q I q => Subscript_ (thn (he.run pins s σ H _ I q) fun v s1 ⟨x, H1, I1, r1, q1⟩ => ?_)⟩
  refine wpAny_Slice (thn (hl.run pins s1 σ H1 (fun o H2 => o = l ∧ H2 = H1) I1 ⟨rfl, rfl⟩) fun vl s2 ⟨_, H2, I2, pl, el, e2⟩ => ?_)
  subst el e2
  refine thn (hu.run pins s2 σ H2 (fun o H3 => o = h ∧ H3 = H2) I2 ⟨rfl, rfl⟩) fun vu s3 ⟨_, H3, I3, pu, eu, e3⟩ => ?_
  subst eu e3
  refine thn (hs.run pins s3 σ H3 (fun o H4 => o = some k ∧ H4 = H3) I3 ⟨rfl, rfl⟩) fun vs s4 ⟨_, H4, I4, ps, es, e4⟩ => ?_
  subst es e4
  have I5 : Inv X pins σ H4 { s4 with heap := s4.heap.push { cls := .type "slice", data := .fields #[vl, vu, vs] } } := I4.kept (t' := s4.toks) fun b ob z => Heap.get?_push_of_some _ z
  obtain ⟨T, id, hT, ht, hg⟩ := hr pins _ σ H4 x v vl vu vs s4.heap.objs.size Q I5 r1 (Heap.IsSliceOf.new _ vl vu vs) pl pu ps q1
  show wpAny (model X.prog X.w) X.A (subscriptTail e (.Slice lo hi (some st) p2) v (.ref s4.heap.objs.size)) (EP X pins σ Q) X.xe _
  exact tail_any (ops := [v, .ref s4.heap.objs.size]) ht hT hg (by with_unfolding_all rfl)
theorem po_c (i : Int) {c : Expr} (h : PE X c (tC (.int i))) : PO X (some c) (fun _ H Q => Q (some i) H) := by
  refine ⟨fun pins s σ H Q I q => ?_⟩
  exact (po_some h).run pins s σ H Q I ⟨i, rfl, q⟩
theorem po_n : PO X none (fun _ H Q => Q none H) := ⟨fun pins s σ H Q I q => po_none.run pins s σ H Q I q⟩
theorem sl3_list {l h : Option Int} {k : Int} {f : List V → List V} {g : List Value → List Value} (k0 : k ≠ 0) (hf : ∀ its : List Value, slicePick its.toArray l h (some k) = (g its).toArray) (hv : ∀ {vs us}, Vals vs us → Vals (f vs) (g us)) (hz : ∀ vs, (f vs).length ≤ vs.length) :
    Sl3R X l h (some k) (fun x H Q => ∃ a xs, x = .ref a ∧ SqL X.K H a xs ∧ ∀ p, H p = none → Q (.ref p) (upd H p (.lst (f xs)))) := by
  rintro pins s σ H x v vl vu vs sl Q I rx hs pl pu ps ⟨a, xs, rfl, hx, q⟩
  cases rx
  obtain ⟨its, r, ht, small⟩ := I.list hx
  have len := r.length
  refine ⟨"list", _, slot_list_getitem.lookup, ht.isList.typeIs, ?_⟩
  refine wpAny_getItem_list_slice ht.isList hs pl pu ps (fun z => k0 (Option.some.inj z)) ?_ (by rw [List.size_toArray]; omega)
  rw [hf]
  refine ⟨.ref _, _, I.laid (t' := s.toks) (o := .lst (f xs)) (fun b ob z => Heap.get?_push_of_some _ z) (Nat.le_refl _) ?_, rfl, q _ (I.hok.fresh (Nat.le_refl _))⟩
  exact ⟨Nat.le_trans (hz xs) small, _, 0, hv r, Heap.get?_push_size _ rfl⟩
/-- x[::2], x[1::2] of a list -/
def dEv (fz : Bool) (f : List DL.D → List DL.D) (t : DTE) : DTE := fun ρ M Q => t ρ M fun d M1 => ∃ xs, lstOf M1 d = some xs ∧ newL fz (f xs) M1 Q
theorem can_ev {fz : Bool} {f : List DL.D → List DL.D} {g : List V → List V} (hr : ∀ {F vs ds}, RpAll X.K F vs ds → RpAll X.K F (g vs) (f ds)) {σ : St} {H : Hp} {Q0 : VK} (q : canE Y (dEv fz f t) σ H Q0) :
    canE Y t σ H fun x H1 => ∃ a xs, x = .ref a ∧ SqL X.K H1 a xs ∧ ∀ p, H1 p = none → Q0 (.ref p) (upd H1 p (.lst (g xs))) := by
  obtain ⟨F, M, ρ, Q, rs, rl, q, k⟩ := q
  refine ⟨F, M, ρ, _, rs, rl, q, fun v d F1 M1 H1 s1 rp ⟨xs, e1, q1⟩ => ?_⟩
  obtain ⟨l, vs, rfl, h1, ra⟩ := lstOf_rp s1.rel rp e1
  exact ⟨l, vs, rfl, h1, fun p hp => newL_ok s1.rel (hr ra) q1 (fun v z F' M' H' s => k v z F' M' H' (s1.trans s)) p hp⟩
theorem de_step2_0 (fz : Bool) {kd : Nat} (he : DE X Y e t) : DE X Y (.Subscript e (.Slice none none (some (.Constant (.int 2) kd p1)) p2) pos) (dEv fz ev t) := by
  refine PE.weak (pe_slice3 (sl3_list (f := ev) (g := ev) (by decide) (fun its => pick_ev its.toArray) vals_ev (fun vs => by rw [ev_length]; omega)) he po_n po_n (po_c 2 pe_int)) fun σ H Q0 q => can_ev RpAll.ev q
theorem de_step2_1 (fz : Bool) {kd kd2 : Nat} (he : DE X Y e t) : DE X Y (.Subscript e (.Slice (some (.Constant (.int 1) kd2 p3)) none (some (.Constant (.int 2) kd p1)) p2) pos) (dEv fz (fun xs => ev xs.tail) t) := by
  refine PE.weak (pe_slice3 (sl3_list (f := fun xs => ev xs.tail) (g := fun xs => ev xs.tail) (by decide) (fun its => pick_od its.toArray) (fun r => vals_ev (vals_tail r)) (fun vs => by rw [ev_length, List.length_tail]; omega)) he (po_c 1 pe_int) po_n (po_c 2 pe_int)) fun σ H Q0 q => can_ev (fun r => r.tail.ev) q
end
/-! ### x[::-1] of a tuple, of a text -/
theorem getItem_tuple_back {P : Program} {w : World} {A : Around} {E : Value → Shared → Prop} {s : Shared} {t sl : Addr} {items : Array Value} {vl vu vs : Value} {Q : Value → Shared → Prop} (ht : IsTup s.heap t items) (hs : s.heap.IsSliceOf sl vl vu vs) (pl : IsPart vl none) (pu : IsPart vu none) (pk : IsPart vs (some (-1)))
    (small : items.size ≤ sizeLine) (h : Q (.ref s.heap.objs.size) { s with heap := s.heap.push { cls := .type "tuple", data := .seq items.toList.reverse.toArray } }) : wpAny (model P w) A (getItem (.ref t) (.ref sl)) Q E s := by
  obtain ⟨os, hos, hcs, hds⟩ := id hs
  have isSl : s.TypeIs (.ref sl) "slice" := ⟨os, hos, hcs⟩
  unfold getItem
  try with_reducible refine wpAny_holding ?_
  first | refine wpAny_bind (wpAny_pure ?_) | skip
  refine wpAny_bind (wpAny_sequenceKey ht.typeIs (by decide) (wpAny_bind (wpAny_callSpecial?_slot (name := Str.ofString "__getitem__") ht.typeIs PyProof.Rows.slot_tuple_getitem
    (wpAny_call_entry PyProof.Rows.slot_tuple_getitem ht.typeIs entry_tuple_getitem ?_ (args_tuple_getitem _ _)))))
  refine wpAny_bind (m := Builtin.Tuple.tupleItemsOf (.ref t)) (tupleItemsOf_ ht (wpAny_bind (wpAny_typeOf isSl ?_)))
  rw [if_pos (by decide)]
  have places : Builtin.Slice.slicePlaces ((items.size : Int) - 1) (-1) (-1) = items.size := by
    unfold Builtin.Slice.slicePlaces
    by_cases z : (items.size : Int) - 1 > -1
    · simp only [show ¬ ((-1 : Int) > 0) from by decide, if_false, z, if_true]
      rw [show (- -1 : Int) = 1 from rfl, Int.ediv_one]
      omega
    · simp only [show ¬ ((-1 : Int) > 0) from by decide, if_false, z]
      omega
  refine wpAny_bind (m := Builtin.Slice.sliceApplied (.ref sl) (pure (items.size : Int))) ?_
  unfold Builtin.Slice.sliceApplied Builtin.Slice.sliceFields
  refine wpAny_bind (wpAny_bind (wpAny_field hos hds (x := vl) rfl (wpAny_bind (wpAny_field hos hds (x := vu) rfl (wpAny_bind (wpAny_field hos hds (x := vs) rfl (wpAny_pure ?_)))))))
  refine wpAny_bind (HT.slicePart_ pk ?_)
  show wpAny _ _ (if ((-1 : Int) == 0) = true then _ else _) _ _ s
  rw [if_neg (by decide)]
  refine wpAny_bind (HT.slicePart_ pl (wpAny_bind (HT.slicePart_ pu (wpAny_bind (wpAny_pure ?_)))))
  have adj : Builtin.Slice.sliceAdjust none none (-1) (items.size : Int) = ((items.size : Int) - 1, -1) := by first | rfl | simp [Builtin.Slice.sliceAdjust]
  show wpAny _ _ (match Builtin.Slice.sliceAdjust none none (-1) (items.size : Int) with | (lo, hi) => pure (lo, (-1 : Int), Builtin.Slice.slicePlaces lo hi (-1))) _ _ s
  rw [adj]
  show wpAny _ _ (pure ((items.size : Int) - 1, (-1 : Int), Builtin.Slice.slicePlaces ((items.size : Int) - 1) (-1) (-1))) _ _ s
  rw [places]
  refine wpAny_pure ?_
  have notAll : ¬ ((((items.size : Int) - 1) == 0 && (-1 : Int) == 1 && items.size == items.size) = true) := by
    intro z
    rw [Bool.and_eq_true, Bool.and_eq_true] at z
    exact absurd z.1.2 (by decide)
  show wpAny _ _ (if (((items.size : Int) - 1) == 0 && (-1 : Int) == 1 && items.size == items.size) = true then _ else _) _ _ s
  have picked : ((List.range items.size).filterMap fun (m : Nat) => items[((items.size : Int) - 1 + (m : Int) * -1).toNat]?).toArray = items.toList.reverse.toArray := by
    have q := back_pick items.toList
    rw [List.filterMap_map, Array.length_toList] at q
    rw [← q]
    refine congrArg _ (fm_congr fun m hm => ?_)
    show _ = items.toList[items.size - 1 - m]?
    rw [Array.getElem?_toList]
    exact congrArg (items[·]?) (by omega)
  rw [if_neg notAll, picked]
  have fits : sizeOk (.seq items.toList.reverse.toArray) := by
    show items.toList.reverse.toArray.size ≤ sizeLine
    rw [List.size_toArray, List.length_reverse, Array.length_toList]; exact small
  first
    | exact wpAny_bind (m := Builtin.Tuple.tupleExact _) (wpAny_newObj_type (wpAny_pure ⟨_, rfl, wpAny_pure h⟩) fits)
    | exact wpAny_bind (m := Builtin.Tuple.tupleExact _) (wpAny_newObj_type (wpAny_bind (wpAny_pure (wpAny_pure ⟨_, rfl, wpAny_pure h⟩))) fits)
    | exact wpAny_bind (wpAny_bind (m := Builtin.Tuple.tupleExact _) (wpAny_newObj_type (wpAny_pure (wpAny_pure ⟨_, rfl, wpAny_pure h⟩)) fits))
    | exact wpAny_bind (wpAny_bind (m := Builtin.Tuple.tupleExact _) (wpAny_newObj_type (wpAny_pure ⟨_, rfl, wpAny_pure h⟩) fits))
theorem sl3_tupB {X : Cx} {Y : KJ X.K} : Sl3R X none none (some (-1)) (fun x H Q => ∃ a xs, x = .ref a ∧ SqT X.K H a xs ∧ ∀ p, H p = none → Q (.ref p) (upd H p (.tup xs.reverse))) := by
  rintro pins s σ H x v vl vu vs sl Q I rx hs pl pu ps ⟨a, xs, rfl, hx, q⟩
  cases rx
  obtain ⟨its, r, ht, small⟩ := I.tuple hx
  have len := r.length
  refine ⟨"tuple", _, PyProof.Rows.slot_tuple_getitem.lookup, ht.typeIs, ?_⟩
  refine getItem_tuple_back ht hs pl pu ps (by rw [List.size_toArray]; omega) ?_
  refine ⟨.ref s.heap.objs.size, _, I.laid (t' := s.toks) (o := .tup xs.reverse) (fun b ob z => Heap.get?_push_of_some _ z) (Nat.le_refl _) ?_, rfl, q _ (I.hok.fresh (Nat.le_refl _))⟩
  exact ⟨by rw [List.length_reverse]; exact small, _, r.reverse, IsTup.new _ _⟩
def revT (z : Str) : Str := ⟨z.cps.toList.reverse.toArray⟩
theorem sl3_strB {X : Cx} {Y : KJ X.K} : Sl3R X none none (some (-1)) (fun x H Q => ∃ z, x = .str z ∧ z.length ≤ sizeLine ∧ Q (.str (revT z)) H) := by
  rintro pins s σ H x v vl vu vs sl Q I rx hs pl pu ps ⟨z, rfl, small, q⟩
  obtain ⟨t, rfl⟩ := rx
  obtain ⟨os, hos, hcs, hds⟩ := hs
  obtain ⟨l, rfl, el⟩ := IsPart.raw pl
  obtain ⟨u, rfl, eu⟩ := IsPart.raw pu
  obtain ⟨k, rfl, ek⟩ := IsPart.raw ps
  refine ⟨"str", _, F.slot_str_getitem.lookup, typeIs_str _ _ _, ?_⟩
  refine wpAny_getItem_str_slice (l := l) (u := u) (st := k) ⟨os, hos, hcs, hds⟩ (by rw [ek]; rfl) ?_
  have e : slicePicked z l u k = (List.range z.cps.toList.length).map fun k => z.cps.toList.length - 1 - k := by
    unfold slicePicked
    rw [el, eu, ek, Array.length_toList]
    exact rng_back z.cps.size
  have made : sliceMade z t l u k = .str (revT z) := by
    unfold sliceMade
    rw [ek]
    rw [if_neg (by simp), e]
    unfold revT
    rw [← back_pick z.cps.toList]
    simp only [Array.getElem?_toList]
  rw [made]
  refine ⟨?_, ⟨.str (revT z), H, I.tok _, ⟨_, rfl⟩, q⟩⟩
  show z.cps.toList.reverse.toArray.size ≤ sizeLine
  rw [List.size_toArray, List.length_reverse, Array.length_toList]; exact small
end DL

/-! DL8a: sets of texts made of a list or of a text, and their sorted list. -/
namespace DL
open PySem PySem.Spec L2
open PyProof.Rows hiding St

def kOf (e : Int × Value) : Str := match e.2 with
  | .str k _ => k
  | _ => Str.empty
def TxE (w : World) (e : Int × Value) : Prop := ∃ k u, e = (hashStr w k, Value.str k u)
/-- the set at a has just the texts ks -/
def TxS (w : World) (h : Heap) (a : Addr) (ks : List Str) : Prop :=
  ∃ o es ep t, h.get? a = some o ∧ o.ExactSet ∧ o.data = .set es ep t ∧ (∀ e ∈ es.toList, TxE w e) ∧ (es.toList.map kOf).Perm ks ∧ ks.Nodup ∧
    es.size < scanBound ∧ t.fits es.size = true ∧ Ris t.place.toList ∧ (w.params.followText "set-order" = true ∨ t.led = true)
section
variable {P : Program} {w : World} {A : Around} {E : Value → Shared → Prop} {s : Shared} {a : Addr} {ks : List Str}
theorem TxS.at {h h' : Heap} (R : TxS w h a ks) (keep : ∀ o, h.get? a = some o → h'.get? a = some o) : TxS w h' a ks :=
  let ⟨o, es, ep, t, x, r⟩ := R
  ⟨o, es, ep, t, keep o x, r⟩
theorem tx_elems {l : List (Int × Value)} (g : ∀ e ∈ l, TxE w e) : ElemsOf (PySem.strKind P w) l := by
  intro e he
  obtain ⟨k, u, rfl⟩ := g e he
  exact ⟨⟨k, strKind_is P w k u, rfl⟩, rfl⟩
theorem tx_is (k k2 : Str) (u : Tok) : (PySem.strKind P w).is k (.str k2 u) = true ↔ k2 = k := by
  show Value.isStrOf k (.str k2 u) = true ↔ _
  simp [Value.isStrOf]
theorem tx_none {l : List (Int × Value)} (g : ∀ e ∈ l, TxE w e) (k : Str) : k ∈ l.map kOf ↔ ∃ e ∈ l, (PySem.strKind P w).is k e.2 = true := by
  rw [List.mem_map]
  refine ⟨fun ⟨e, he, q⟩ => ⟨e, he, ?_⟩, fun ⟨e, he, q⟩ => ⟨e, he, ?_⟩⟩ <;> obtain ⟨k2, u, rfl⟩ := g e he
  · exact (tx_is k k2 u).2 q
  · exact (tx_is k k2 u).1 q
set_option maxHeartbeats 1000000 in
theorem tx_add {k : Str} {u : Tok} {Q : Bool → Shared → Prop} (R : TxS w s.heap a ks) (room : ks.length + 1 < scanBound)
    (hQ : ∀ h' b, Heap.SameBut a s.heap h' → TxS w h' a (if k ∈ ks then ks else k :: ks) → Q b { s with heap := h' }) :
    wpAny (model P w) A (setAddHashed a (.str k u) ((PySem.strKind P w).hash k)) Q E s := by
  obtain ⟨o, es, ep, t, ho, hex, hd, good, pm0, nodup, small, fit, rises, led⟩ := R
  have key : (PySem.strKind P w).is k (.str k u) = true := strKind_is P w k u
  have scan : (Value.str k u).scannable = true := rfl
  have elems : ElemsOf (PySem.strKind P w) es.toList := tx_elems good
  unfold setAddHashed setAddHashedIn
  refine wpAny_holding (wpAny_bind (wpAny_setState_of ho hd fit ?_))
  dsimp only
  rw [byScan_of scan small elems]
  simp only [↓reduceIte]
  unfold setAddByScan
  refine wpAny_bind (wpAny_bind (wpAny_rule (wpAny_bind (wpAny_setScan_of key ho hd fit elems ?_))))
  cases hfi : List.findIdx? (fun e => (PySem.strKind P w).is k e.2) es.toList with
  | some j =>
    obtain ⟨hj, pj, _⟩ := List.findIdx?_eq_some_iff_getElem.mp hfi
    have inn : k ∈ ks := pm0.mem_iff.mp ((tx_none (P := P) (w := w) good k).2 ⟨_, List.getElem_mem hj, pj⟩)
    refine wpAny_pure (wpAny_pure (hQ s.heap _ (Heap.SameBut.refl a s.heap) ?_))
    rw [if_pos inn]
    exact ⟨o, es, ep, t, ho, hex, hd, good, pm0, nodup, small, fit, rises, led⟩
  | none =>
    dsimp only
    have out : k ∉ ks := fun z => by
      obtain ⟨e, he, q⟩ := (tx_none (P := P) (w := w) good k).1 (pm0.mem_iff.mpr z)
      rw [List.findIdx?_eq_none_iff.mp hfi e he] at q
      cases q
    have said : ∀ (b : Bool) {s1 : Shared} {Q' : Unit → Shared → Prop}, Q' () s1 → wpAny (model P w) A (match b with | true => rule "set.scan.the-table-gave-way" | false => pure ()) Q' E s1 := by
      intro b s1 Q' q
      cases b
      · exact wpAny_pure q
      · exact wpAny_rule q
    have p1 := layNew_perm t es ((PySem.strKind P w).hash k) (.str k u)
    have f1 := layNew_fits t es ((PySem.strKind P w).hash k) (.str k u)
    have i1 := layNew_ris t es ((PySem.strKind P w).hash k) (.str k u) rises
    have l1 := layNew_led t es ((PySem.strKind P w).hash k) (.str k u)
    generalize layNew t es ((PySem.strKind P w).hash k) (.str k u) = Z at p1 f1 i1 l1 ⊢
    obtain ⟨es1, t1, dummy, gave⟩ := Z
    dsimp only at p1 f1 i1 l1 ⊢
    rw [Array.toList_push] at p1
    have pc := p1.trans (List.perm_append_singleton _ _)
    have pk : (es1.toList.map kOf).Perm (k :: ks) := (pc.map kOf).trans (pm0.cons k)
    have g1 : ∀ e ∈ es1.toList, TxE w e := by
      intro e he
      cases List.mem_cons.mp (pc.mem_iff.mp he) with
      | inl z => exact ⟨k, u, z⟩
      | inr z => exact good e z
    have nd1 : (k :: ks).Nodup := List.nodup_cons.mpr ⟨out, nodup⟩
    have size1 : es1.size = ks.length + 1 := by
      have q := pk.length_eq
      rw [List.length_map, List.length_cons, Array.length_toList] at q
      exact q
    have small1 : es1.size < scanBound := size1 ▸ room
    have led1 : w.params.followText "set-order" = true ∨ t1.led = true := led.imp id fun z => by rw [l1]; exact z
    have fin : ∀ h' b, Heap.SameBut a s.heap h' → TxS w h' a (k :: ks) → Q b { s with heap := h' } := fun h' b sb r => hQ h' b sb (by rw [if_neg out]; exact r)
    have last : ∀ (t2 : SetTable), t2.fits es1.size = true → Ris t2.place.toList → (w.params.followText "set-order" = true ∨ t2.led = true) →
        (∃ o1, (s.heap.update a (Obj.putSet es1 t2)).get? a = some o1 ∧ o1.ExactSet ∧ o1.data = .set es1 (ep + 1) t2) ∧ TxS w (s.heap.update a (Obj.putSet es1 t2)) a (k :: ks) ∧
        (∃ es3 t3, es3 = (relayAll t2 es1 (SetTable.grown es1.size)).1 ∧ t3 = (relayAll t2 es1 (SetTable.grown es1.size)).2.1 ∧ es3.size < scanBound ∧ TxS w ((s.heap.update a (Obj.putSet es1 t2)).update a (Obj.putSet es3 t3)) a (k :: ks)) := by
      intro t2 f2 i2 l2
      have ho1 := store_at (es' := es1) (t' := t2) ho hd
      refine ⟨⟨_, ho1, hex, rfl⟩, ⟨_, es1, _, t2, ho1, hex, rfl, g1, pk, nd1, small1, f2, i2, l2⟩, _, _, rfl, rfl, ?_⟩
      have p3 := relayAll_perm t2 es1 (SetTable.grown es1.size)
      have f3 := relayAll_fits t2 es1 (SetTable.grown es1.size)
      have i3 := relayAll_ris t2 es1 (SetTable.grown es1.size)
      have l3 := relayAll_led t2 es1 (SetTable.grown es1.size)
      have ho2 := store_at (es' := (relayAll t2 es1 (SetTable.grown es1.size)).1) (t' := (relayAll t2 es1 (SetTable.grown es1.size)).2.1) ho1 rfl
      have size3 : (relayAll t2 es1 (SetTable.grown es1.size)).1.size = es1.size := by
        have q := p3.length_eq
        rw [Array.length_toList, Array.length_toList] at q
        exact q
      have small3 := small1
      rw [← size3] at small3
      refine ⟨small3, _, _, _, _, ho2, hex, rfl, fun e he => g1 e (p3.mem_iff.mp he), (p3.map kOf).trans pk, nd1, small3, f3, i3, l2.imp id fun z => by rw [l3]; exact z⟩
    have sb1 : ∀ t2, Heap.SameBut a s.heap (s.heap.update a (Obj.putSet es1 t2)) := fun t2 => Heap.SameBut.update s.heap a _
    refine wpAny_bind (said _ ?_)
    split
    · refine wpAny_bind ?_
      rw [hashByValue_scannable 8 scan]
      refine wpAny_pure ?_
      refine wpAny_bind (wpAny_storeSet_of ho hd ?_ (fits_of_scanBound small1))
      split
      · obtain ⟨⟨o1, ho1, x1, d1⟩, r1, es3, t3, e3, et3, b3, r3⟩ := last t1 f1 i1 led1
        split
        · refine wpAny_bind (said _ ?_)
          refine wpAny_bind (wpAny_storeSet_of ho1 d1 ?_ (fits_of_scanBound (by rw [← e3]; exact b3)))
          rw [← e3, ← et3]
          exact wpAny_pure (wpAny_pure (fin _ _ ((sb1 _).trans (Heap.SameBut.update _ a _)) r3))
        · exact wpAny_pure (wpAny_pure (fin _ _ (sb1 _) r1))
      · obtain ⟨⟨o1, ho1, x1, d1⟩, r1, es3, t3, e3, et3, b3, r3⟩ := last { t1 with plain := false } (SetTable.fits_plain_off f1) i1 led1
        split
        · refine wpAny_bind (said _ ?_)
          refine wpAny_bind (wpAny_storeSet_of ho1 d1 ?_ (fits_of_scanBound (by rw [← e3]; exact b3)))
          rw [← e3, ← et3]
          exact wpAny_pure (wpAny_pure (fin _ _ ((sb1 _).trans (Heap.SameBut.update _ a _)) r3))
        · exact wpAny_pure (wpAny_pure (fin _ _ (sb1 _) r1))
    · refine wpAny_bind (wpAny_pure ?_)
      simp only [↓reduceIte]
      refine wpAny_bind (wpAny_storeSet_of ho hd ?_ (fits_of_scanBound small1))
      obtain ⟨⟨o1, ho1, x1, d1⟩, r1, es3, t3, e3, et3, b3, r3⟩ := last t1 f1 i1 led1
      split
      · refine wpAny_bind (said _ ?_)
        refine wpAny_bind (wpAny_storeSet_of ho1 d1 ?_ (fits_of_scanBound (by rw [← e3]; exact b3)))
        rw [← e3, ← et3]
        exact wpAny_pure (wpAny_pure (fin _ _ ((sb1 _).trans (Heap.SameBut.update _ a _)) r3))
      · exact wpAny_pure (wpAny_pure (fin _ _ (sb1 _) r1))
end
end DL

/-! DL8b: set(a list of texts), set(a text). -/
namespace DL
open PySem PySem.Spec L2
open PyProof.Rows hiding St

section
variable {P : Program} {w : World} {A : Around} {E : Value → Shared → Prop} {s : Shared}
/-- few distinct texts -/
def Few (xs : List Str) : Prop := ∀ ks : List Str, ks.Nodup → (∀ k ∈ ks, k ∈ xs) → ks.length < 64
theorem tx_loop {I : Addr} {fp wr : List Addr} {G : Array GenState → Array GenState → Prop} {n : Nat} {Pv : Nat → Value → Prop} {St : Nat → Shared → Prop} {R : Result → Shared → Prop}
    (W : WalksS P w A.in1 I fp wr G n Pv St) (S : Addr) (apart : S ∉ fp) (xs : List Str) (hn : n = xs.length) (few : Few xs) (items : ∀ i v, Pv i v → ∃ k t, xs[i]? = some k ∧ v = .str k t) :
    ∀ (m i : Nat) (s : Shared), n - i = m → i ≤ n → St i s → (∃ ks, TxS w s.heap S ks ∧ ∀ k, k ∈ ks ↔ k ∈ xs.take i) →
      (∀ s' ks, Moved (S :: wr) G s s' → TxS w s'.heap S ks → (∀ k, k ∈ ks ↔ k ∈ xs) → R (.ok (.ret .none)) s') →
      codeAny (model P w) A (.builtin "set.update.loop" ⟨[.ref S, .ref I], []⟩) R s := by
  have Sw : S ∉ wr := fun z => apart (W.sub _ z)
  have wide : ∀ b ∈ wr, b ∈ S :: wr := fun b z => List.mem_cons_of_mem _ z
  intro m
  induction m with
  | zero =>
    rintro i s hm hi st ⟨ks, T, mem⟩ hR
    obtain rfl : i = n := by omega
    refine codeAny_builtin F.entry_set_update_loop ?_
    rw [Around.under_plainId F.plain_set_update_loop _]
    show wpAny _ A.in1 (pyNext (.ref I) >>= _) _ _ s
    refine wpAny_bind (W.done s _ _ st fun s1 mv => ?_)
    have whole : xs.take i = xs := List.take_of_length_le (Nat.le_of_eq hn.symm)
    rw [whole] at mem
    exact wpAny_pure (hR s1 ks (mv.mono wide) (T.at fun o e => mv.heap S o Sw e) mem)
  | succ m ih =>
    rintro i s hm hi st ⟨ks, T, mem⟩ hR
    have lt : i < n := by omega
    refine codeAny_builtin F.entry_set_update_loop ?_
    rw [Around.under_plainId F.plain_set_update_loop _]
    show wpAny _ A.in1 (pyNext (.ref I) >>= _) _ _ s
    refine wpAny_bind (W.item i s _ _ lt st fun v s1 pv st1 mv => ?_)
    obtain ⟨z, t, hz, rfl⟩ := items i v pv
    have T1 : TxS w s1.heap S ks := T.at fun o e => mv.heap S o Sw e
    refine wpAny_bind (m := holding [Value.str z t] (setAdd S (.str z t))) (wpAny_holding ?_)
    unfold setAdd
    refine wpAny_holding (wpAny_bind ((PySem.strKind P w).pyHash (k := z) (strKind_is _ _ _ _) ?_))
    have short : ks.length < 64 := few ks (by obtain ⟨_, _, _, _, _, _, _, _, _, nd, _⟩ := T1; exact nd) fun k hk => List.mem_of_mem_take ((mem k).mp hk)
    refine tx_add (s := { s1 with toks := s1.toks + 1 }) T1 (by unfold scanBound; omega) fun h' b same T2 => ?_
    have mem2 : ∀ k, k ∈ (if z ∈ ks then ks else z :: ks) ↔ k ∈ xs.take (i + 1) := fun k => by
      rw [List.take_add_one, hz, List.mem_append, ← mem k]
      split
      · rename_i zin
        exact ⟨.inl, fun q => q.elim id fun e => by simp at e; rw [e]; exact zin⟩
      · rw [List.mem_cons]
        simp [or_comm]
    refine wpAny_pure ⟨plainId_quiet F.plain_set_update_loop _, ih (i + 1) _ (by omega) lt (W.frame _ s1 _ _ st1 (Nat.le_succ _) fun b hb o e => ?_) ⟨_, T2, mem2⟩ fun s2 k2 mv2 T3 m3 => ?_⟩
    · have ne : b ≠ S := fun q => apart (q ▸ hb)
      exact (same.2 b ne).trans e
    · refine hR s2 k2 (Moved.trans W.gtrans ((mv.mono wide).then_heap (Nat.le_succ _) fun b o hb e => ?_) mv2) T3 m3
      have ne : b ≠ S := fun q => hb (q ▸ List.mem_cons_self)
      exact (same.2 b ne).trans e
abbrev sO (w : World) : Obj := { cls := .type "set", dict := none, data := .set #[] 0 (.fresh 0 0 (!w.params.followText "set-order")) }
theorem tx_new {h : Heap} {a : Addr} (ho : h.get? a = some (sO w)) : TxS w h a [] :=
  ⟨_, #[], 0, _, ho, ⟨rfl, rfl, rfl⟩, rfl, (fun e he => nomatch he), .nil, .nil, (by decide), (by rfl), .nil, by
    show _ ∨ (!w.params.followText "set-order") = true
    cases w.params.followText "set-order"
    · exact .inr rfl
    · exact .inl rfl⟩
set_option maxHeartbeats 3200000 in
theorem call_setL {l : Addr} {items : Array Value} {xs : List Str} {Q : Value → Shared → Prop} (hh : A.handled = none) (hl : s.heap.IsList l items) (are : ∀ (i : Nat) (v : Value), items[i]? = some v → ∃ k t, xs[i]? = some k ∧ v = .str k t) (len : items.size = xs.length) (few : Few xs)
    (k : ∀ (h' : Heap) (tk : Nat) (ks : List Str), TxS w h' s.heap.objs.size ks → (∀ k, k ∈ ks ↔ k ∈ xs) → (∀ b o, s.heap.get? b = some o → h'.get? b = some o) → Q (.ref s.heap.objs.size) { s with heap := h', toks := tk }) :
    wpAny (model P w) A (call (.type "set") [.ref l]) Q E s := by
  obtain ⟨c, tl, hmro⟩ := F.called_set.mro
  have hmade := F.called_set.made
  have hsub := F.called_set.sub
  refine wpAny_call (codeAny_of_tree (wpAny_pure (a := _) ⟨Code.quiet_builtin _ (by decide +kernel), codeAny_builtin F.entry_type_call ?_⟩))
  rw [Around.under_plain (weight_type_call_type "set" [.ref l] []) rfl]
  have h1 := F.called_set.notType
  have h2 := F.called_set.canCreate
  have hct := F.typeCall_set_1 (.ref l)
  repeat (any_goals (first | assumption | wp_step))
  refine codeAny_mono (code_set_led1 (.ref l) (E := E) (Q₁ := fun v s1 => v = .ref s.heap.objs.size ∧ s1 = { s with heap := s.heap.push (sO w) }) ⟨rfl, rfl⟩) fun r s1 hr => ?_
  match r, hr with
  | .error e, hr => exact hr
  | .ok (.ret v), hr =>
    obtain ⟨rfl, rfl⟩ := hr
    have new : (s.heap.push (sO w)).get? s.heap.objs.size = some (sO w) := Heap.get?_push_size _ rfl
    have hT : Shared.TypeIs { s with heap := s.heap.push (sO w) } (.ref s.heap.objs.size) "set" := ⟨_, new, rfl⟩
    have hli := F.called_set.init.lookup
    have hbi := F.called_set.init.bind (.ref s.heap.objs.size)
    repeat (any_goals (first | assumption | wp_step))
    refine codeAny_mono (codeAny_call_builtin (R := wants (fun r s2 => r = .none ∧ ∃ h' tk ks, s2 = { s with heap := h', toks := tk } ∧ TxS w h' s.heap.objs.size ks ∧ (∀ k, k ∈ ks ↔ k ∈ xs) ∧
      (∀ b o, s.heap.get? b = some o → h'.get? b = some o)) E) F.called_set.init.plain F.entry_set_init (check_set_init_1 hT ?_)) fun r2 s2 hr2 => ?_
    · obtain ⟨ol, hol, hcl, nl, hdl⟩ := hl
      obtain ⟨ocls, odict, odata, oslots⟩ := ol
      dsimp only at hcl hdl
      subst hcl hdl
      have hol2 : (s.heap.push (sO w)).get? l = some { cls := .type "list", dict := odict, data := .seq items nl, slots := oslots } := Heap.get?_push_of_some _ hol
      have y1 := F.sub_list_set
      have y2 := F.sub_list_frozenset
      have y3 : (Value.type "list" == Value.type "dict") = false := by decide
      have hl1 : (s.heap.push (sO w)).IsList l items := ⟨_, hol2, rfl, nl, rfl⟩
      unfold Builtin.«set.__init__» noKeywords Builtin.Frozenset.updateFrom
      generalize hPI : pyIter = PI
      wp_walk
      subst hPI
      refine wpAny_pyIter_list hl1 (wpAny_bind (wpAny_runValue ?_))
      have ll : l < s.heap.objs.size := Heap.lt_size hol
      have sz : (s.heap.push (sO w)).objs.size = s.heap.objs.size + 1 := Heap.size_push ..
      have ne1 : l ≠ (s.heap.push (sO w)).objs.size := Nat.ne_of_lt (by rw [sz]; exact Nat.lt_succ_of_lt ll)
      have ne2 : s.heap.objs.size ∉ [(s.heap.push (sO w)).objs.size, l] := by
        simp only [List.mem_cons, List.not_mem_nil, or_false, not_or]
        exact ⟨Nat.ne_of_lt (by rw [sz]; exact Nat.lt_succ_self _), Nat.ne_of_gt ll⟩
      refine tx_loop ((Walks.list (by simp [hh]) _ l ne1 items).toS) s.heap.objs.size ne2 xs len few are (items.size - 0) 0 _ (by omega) (Nat.zero_le _) ⟨⟨_, Heap.get?_push_size _ rfl, rfl, rfl⟩, hl1.push _⟩
        ⟨[], tx_new (Heap.get?_push_of_some _ new), fun k => by simp⟩ fun s' ks mv T mem => ?_
      obtain ⟨h', g2, d', tk', os'⟩ := s'
      obtain rfl : g2 = s.gens := mv.gens
      obtain rfl : d' = s.drawn := mv.drawn
      obtain rfl : os' = s.os := mv.os
      show wpAny _ _ _ _ _ _
      refine wpAny_pure ?_
      show wpAny _ _ (ret Value.none) _ _ _
      refine wpAny_pure ⟨rfl, h', tk', ks, rfl, T, mem, fun b o e => ?_⟩
      have lb : b < s.heap.objs.size := Heap.lt_size e
      refine mv.heap b o ?_ (Heap.get?_push_of_some _ (Heap.get?_push_of_some _ e))
      simp only [List.mem_cons, List.not_mem_nil, or_false, not_or]
      exact ⟨Nat.ne_of_lt lb, Nat.ne_of_lt (by rw [sz]; exact Nat.lt_succ_of_lt lb)⟩
    · match r2, hr2 with
      | .error e, hr2 => exact hr2
      | .ok (.ret r), hr2 =>
        obtain ⟨rfl, h', tk, ks, rfl, T, mem, kp⟩ := hr2
        repeat (any_goals (first | assumption | wp_step))
        exact k _ _ _ T mem kp
      | .ok .next, hr2 => exact hr2.elim
      | .ok .brk, hr2 => exact hr2.elim
      | .ok .cont, hr2 => exact hr2.elim
  | .ok .next, hr => exact hr.elim
  | .ok .brk, hr => exact hr.elim
  | .ok .cont, hr => exact hr.elim
set_option maxHeartbeats 3200000 in
theorem call_setT {x : Str} {u : Tok} {Q : Value → Shared → Prop} (hh : A.handled = none) (few : Few (PyProof.Rows.signs x))
    (k : ∀ (h' : Heap) (tk : Nat) (ks : List Str), TxS w h' s.heap.objs.size ks → (∀ k, k ∈ ks ↔ k ∈ PyProof.Rows.signs x) → (∀ b o, s.heap.get? b = some o → h'.get? b = some o) → Q (.ref s.heap.objs.size) { s with heap := h', toks := tk }) :
    wpAny (model P w) A (call (.type "set") [.str x u]) Q E s := by
  obtain ⟨c, tl, hmro⟩ := F.called_set.mro
  have hmade := F.called_set.made
  have hsub := F.called_set.sub
  refine wpAny_call (codeAny_of_tree (wpAny_pure (a := _) ⟨Code.quiet_builtin _ (by decide +kernel), codeAny_builtin F.entry_type_call ?_⟩))
  rw [Around.under_plain (weight_type_call_type "set" [.str x u] []) rfl]
  have h1 := F.called_set.notType
  have h2 := F.called_set.canCreate
  have hct := F.typeCall_set_1 (.str x u)
  repeat (any_goals (first | assumption | wp_step))
  refine codeAny_mono (code_set_led1 (.str x u) (E := E) (Q₁ := fun v s1 => v = .ref s.heap.objs.size ∧ s1 = { s with heap := s.heap.push (sO w) }) ⟨rfl, rfl⟩) fun r s1 hr => ?_
  match r, hr with
  | .error e, hr => exact hr
  | .ok (.ret v), hr =>
    obtain ⟨rfl, rfl⟩ := hr
    have new : (s.heap.push (sO w)).get? s.heap.objs.size = some (sO w) := Heap.get?_push_size _ rfl
    have hT : Shared.TypeIs { s with heap := s.heap.push (sO w) } (.ref s.heap.objs.size) "set" := ⟨_, new, rfl⟩
    have hli := F.called_set.init.lookup
    have hbi := F.called_set.init.bind (.ref s.heap.objs.size)
    repeat (any_goals (first | assumption | wp_step))
    refine codeAny_mono (codeAny_call_builtin (R := wants (fun r s2 => r = .none ∧ ∃ h' tk ks, s2 = { s with heap := h', toks := tk } ∧ TxS w h' s.heap.objs.size ks ∧ (∀ k, k ∈ ks ↔ k ∈ PyProof.Rows.signs x) ∧
      (∀ b o, s.heap.get? b = some o → h'.get? b = some o)) E) F.called_set.init.plain F.entry_set_init (check_set_init_1 hT ?_)) fun r2 s2 hr2 => ?_
    · have y1 := F.sub_str_set
      have y2 := F.sub_str_frozenset
      have y3 : (Value.type "str" == Value.type "dict") = false := by decide
      have y4 : Shared.TypeIs { s with heap := s.heap.push (sO w) } (.str x u) "str" := typeIs_str _ _ _
      unfold Builtin.«set.__init__» noKeywords Builtin.Frozenset.updateFrom
      generalize hPI : pyIter = PI
      wp_walk
      subst hPI
      refine wpAny_pyIter_str fun o St walks st0 => wpAny_bind (wpAny_runValue ?_)
      have sz : (s.heap.push (sO w)).objs.size = s.heap.objs.size + 1 := Heap.size_push ..
      have ne2 : s.heap.objs.size ∉ [(s.heap.push (sO w)).objs.size] := by
        simp only [List.mem_cons, List.not_mem_nil, or_false]
        exact Nat.ne_of_lt (by rw [sz]; exact Nat.lt_succ_self _)
      have len : x.cps.size = (PyProof.Rows.signs x).length := by unfold PyProof.Rows.signs; simp
      have are : ∀ (i : Nat) (v : Value), SignAt x i v → ∃ k t, (PyProof.Rows.signs x)[i]? = some k ∧ v = .str k t := by
        rintro i v ⟨c, t, hc, rfl⟩
        exact ⟨_, t, by unfold PyProof.Rows.signs; rw [List.getElem?_map, Array.getElem?_toList, hc]; rfl, rfl⟩
      refine tx_loop ((walks _ (by simp [hh])).toS) s.heap.objs.size ne2 (PyProof.Rows.signs x) len few are (x.cps.size - 0) 0 _ (by omega) (Nat.zero_le _) st0
        ⟨[], tx_new (Heap.get?_push_of_some _ new), fun k => by simp⟩ fun s' ks mv T mem => ?_
      obtain ⟨h', g2, d', tk', os'⟩ := s'
      obtain rfl : g2 = s.gens := mv.gens
      obtain rfl : d' = s.drawn := mv.drawn
      obtain rfl : os' = s.os := mv.os
      show wpAny _ _ _ _ _ _
      refine wpAny_pure ?_
      show wpAny _ _ (ret Value.none) _ _ _
      refine wpAny_pure ⟨rfl, h', tk', ks, rfl, T, mem, fun b o e => ?_⟩
      have lb : b < s.heap.objs.size := Heap.lt_size e
      refine mv.heap b o ?_ (Heap.get?_push_of_some _ (Heap.get?_push_of_some _ e))
      simp only [List.mem_cons, List.not_mem_nil, or_false, not_or]
      exact ⟨Nat.ne_of_lt lb, Nat.ne_of_lt (by rw [sz]; exact Nat.lt_succ_of_lt lb)⟩
    · match r2, hr2 with
      | .error e, hr2 => exact hr2
      | .ok (.ret r), hr2 =>
        obtain ⟨rfl, h', tk, ks, rfl, T, mem, kp⟩ := hr2
        repeat (any_goals (first | assumption | wp_step))
        exact k _ _ _ T mem kp
      | .ok .next, hr2 => exact hr2.elim
      | .ok .brk, hr2 => exact hr2.elim
      | .ok .cont, hr2 => exact hr2.elim
  | .ok .next, hr => exact hr.elim
  | .ok .brk, hr => exact hr.elim
  | .ok .cont, hr => exact hr.elim
end
end DL

/-! DL8c: sorted(set(x)) as a rule. -/
namespace DL
open PySem PySem.Spec L2
open PyProof.Rows hiding St

section
variable {P : Program} {w : World} {A : Around} {E : Value → Shared → Prop} {s : Shared} {a : Addr} {ks : List Str}
theorem strs_of : ∀ l : List Value, (∀ v ∈ l, ∃ k u, v = Value.str k u) → ∃ ns, StrsAre l ns ∧ ns = l.map fun v => kOf (0, v)
  | [], _ => ⟨[], .nil, rfl⟩
  | v :: l, h => by
    obtain ⟨k, u, rfl⟩ := h v List.mem_cons_self
    obtain ⟨ns, g, e⟩ := strs_of l fun x hx => h x (List.mem_cons_of_mem _ hx)
    exact ⟨k :: ns, .cons k u g, by rw [e]; rfl⟩
set_option maxHeartbeats 4000000 in
theorem tx_sorted {Q : Value → Shared → Prop} (R : TxS w s.heap a ks) (hh : A.handled = none) (few : ks.length < 64)
    (k : ∀ s' p (out : Array Value) (c : Nat) (ys : List Str), (∀ b o, s.heap.get? b = some o → s'.heap.get? b = some o) → s'.gens = s.gens → s'.os = s.os → s.heap.objs.size ≤ p →
      s'.heap.get? p = some (seqObj "list" out c) → StrsAre out.toList ys → ys.Perm ks → sortedS ys = true → Q (.ref p) s') :
    wpAny (model P w) A (call (.builtin "sorted") [.ref a]) Q E s := by
  obtain ⟨o, es, ep, t, ho, hex, hd, good, pm, nd, small, fit, rises, led⟩ := R
  have size : es.size = ks.length := by
    have q := pm.length_eq
    rw [List.length_map, Array.length_toList] at q
    exact q
  refine Calls.call_function_entry kind_sorted plain_sorted entry_sorted (args_sorted1 _) ?_
  unfold Builtin.«sorted»
  refine wpAny_bind (m := checkCount "sorted" 1 1 _) (wpAny_pure (wpAny_bind (collect_set (A := A.in1) hh ⟨o, ho, hex.1, hd⟩ fit small rises led fun s1 vs kp1 hz g1 o1 p1 => ?_)))
  have lv : vs.length = ks.length := by rw [p1.length_eq, List.length_map, Array.length_toList]; exact size
  obtain ⟨ns, hS, ens⟩ := strs_of vs fun v hv => by
    obtain ⟨e, he, q⟩ := List.mem_map.mp (p1.mem_iff.mp hv)
    obtain ⟨k, u, rfl⟩ := good e he
    exact ⟨k, u, q.symm⟩
  have pn : ns.Perm ks := by
    have q := p1.map fun v => kOf (0, v)
    rw [List.map_map] at q
    rw [ens]
    exact q.trans pm
  refine wpAny_bind (wpAny_newList ?_ (by rw [lv, sizeLine_eq]; omega))
  have hl : (s1.heap.push (seqObj "list" vs.toArray 0)).get? s1.heap.objs.size = some (seqObj "list" vs.toArray 0) := Heap.get?_push_size _ rfl
  refine wpAny_bind (wpAny_holding (wpAny_call_entry slot_list_sort ⟨_, hl, rfl⟩ entry_list_sort (list_sort_treeK strKind_oneLt hl hS.keysOf (fun v1 v2 r e => keyKind_strs (by rw [← e]; exact hS)) (by rw [lv]; exact few) fun st' a1 a2 => ⟨_, rfl, ?_⟩) (args_list_sort _)))
  obtain ⟨ys, h1, h2, h3⟩ := sorted_out_str hS a1 a2
  obtain ⟨c, hc⟩ := sortedHeap_at (vs := vs) (out := _) hl
  refine wpAny_pure ⟨_, rfl, k _ s1.heap.objs.size _ c ys (fun b u e => ?_) g1 o1 hz hc h1 (h2.trans pn) h3⟩
  have q := kp1 b u e
  have lt := Heap.lt_size q
  exact (sortedHeap_old (Nat.ne_of_lt lt) (by rw [size_push']; exact Nat.lt_succ_of_lt lt)).trans (Heap.get?_push_of_some _ q)
end
def TxO (w : World) (a : Addr) (ks : List Str) : HO := .ext fun h => TxS w h a ks
theorem txO_new {w : World} {P : Program} {H : Hp} {h : Heap} {a : Addr} {ks : List Str} (R : TxS w h a ks) : ObjOk P w H h a (TxO w a ks) := by
  have ⟨o, _, _, _, ho, _⟩ := R
  exact ⟨R, ⟨o, ho⟩, fun h1 h2 p k => TxS.at p k⟩
theorem TxS.nodup {w : World} {h : Heap} {a : Addr} {ks : List Str} (R : TxS w h a ks) : ks.Nodup := by
  obtain ⟨_, _, _, _, _, _, _, _, _, nd, _⟩ := R
  exact nd
section
variable {X : Cx} {Y : KJ X.K}
def rSetTx (K : PySem.W.Frag) (w : World) : List V → Hp → VK → Prop := fun vs H Q => ∃ v xs, vs = [v] ∧ ((∃ x, v = .str x ∧ xs = PyProof.Rows.signs x) ∨ ∃ l, v = .ref l ∧ SqL K H l (xs.map V.str)) ∧ Few xs ∧
  ∀ p ks, H p = none → ks.Nodup → (∀ k, k ∈ ks ↔ k ∈ xs) → Q (.ref p) (upd H p (TxO w p ks))
theorem strsA : ∀ {xs : List Str} {us : List Value}, Vals (xs.map V.str) us → StrsAre us xs
  | [], _, .nil => .nil
  | x :: xs, _, .cons h t => by
    obtain ⟨u, rfl⟩ := h
    exact .cons x u (strsA t)
theorem strsA_at : ∀ {xs : List Str} {us : List Value}, Vals (xs.map V.str) us → ∀ (i : Nat) (v : Value), us[i]? = some v → ∃ k t, xs[i]? = some k ∧ v = .str k t
  | [], _, .nil, i, v, h => by simp at h
  | x :: xs, _, .cons ⟨u, e⟩ t, 0, v, h => by
    simp at h
    exact ⟨x, u, rfl, by rw [← h]; exact e⟩
  | x :: xs, _, .cons _ t, i + 1, v, h => strsA_at t i v h
theorem cr_setTx (hc : X.calm = true) : CallR X (.type "set") (rSetTx X.K X.w) := by
  intro pins s σ H vs us Q I r h
  obtain ⟨v, xs, rfl, src, few, q⟩ := h
  rcases src with ⟨x, rfl, rfl⟩ | ⟨l, rfl, hl⟩
  · obtain ⟨u, rfl, ⟨t, rfl⟩⟩ := vals1 r
    refine call_setT (I.ok.hd hc) few fun h' tk ks T mem keep => ?_
    exact ⟨.ref _, upd H s.heap.objs.size (TxO X.w s.heap.objs.size ks), I.laid (t' := tk) keep (Nat.le_refl _) (txO_new T), rfl, q _ ks (I.hok.fresh (Nat.le_refl _)) T.nodup mem⟩
  · obtain ⟨its, rv, pl, _⟩ := I.list hl
    have sa : StrsAre its xs := strsA rv
    rw [Vals.ref1 r]
    refine call_setL (I.ok.hd hc) pl.isList (xs := xs) (fun i v hv => ?_) (by rw [List.size_toArray]; exact StrsAre.len_eq sa) few fun h' tk ks T mem keep => ?_
    · exact strsA_at rv i v (by simpa using hv)
    · exact ⟨.ref _, upd H s.heap.objs.size (TxO X.w s.heap.objs.size ks), I.laid (t' := tk) keep (Nat.le_refl _) (txO_new T), rfl, q _ ks (I.hok.fresh (Nat.le_refl _)) T.nodup mem⟩
def rSortTx (w : World) : List V → Hp → VK → Prop := fun vs H Q => ∃ a ks, vs = [V.ref a] ∧ H a = some (TxO w a ks) ∧ ks.length < 64 ∧
  ∀ (ys : List Str) (p : Addr), ys.Perm ks → sortedS ys = true → H p = none → Q (.ref p) (upd H p (.lst (ys.map V.str)))
theorem cr_sortTx (hc : X.calm = true) : CallR X (.builtin "sorted") (rSortTx X.w) := by
  intro pins s σ H vs us Q I r h
  obtain ⟨a, ks, rfl, ha, few, q⟩ := h
  have R : TxS X.w s.heap a ks := (I.hok a _ ha).1
  rw [Vals.ref1 r]
  refine tx_sorted R (I.ok.hd hc) few fun s1 p out c ys keep gens os hp hg are perm sorted => ?_
  have fits : (ys.map V.str).length ≤ sizeLine := by rw [List.length_map, perm.length_eq, sizeLine_eq]; omega
  have none1 : H p = none := I.hok.fresh hp
  have J : Inv X pins σ (upd H p (.lst (ys.map V.str))) { s with heap := s1.heap, gens := s1.gens, drawn := s1.drawn, toks := s1.toks } :=
    I.call (ch := []) (Un.laid keep hp none1) (I.hok.laid keep hp ⟨fits, out.toList, c, vals_of_strs are, hg⟩) (by rw [gens]; exact I.bare) (fun _ z => nomatch z)
  have e : s1 = { s with heap := s1.heap, gens := s1.gens, drawn := s1.drawn, toks := s1.toks } := by
    cases s1; cases s; cases os; rfl
  rw [e]
  exact ⟨.ref p, _, J, rfl, q ys p perm sorted none1⟩
/-- sorted(set(x)), x a text or a list of texts -/
def dSortSet (fz : Bool) (t : DTE) : DTE := fun ρ M Q => t ρ M fun d M1 => ∃ xs : List Str, ((∃ x, d = .str x ∧ xs = PyProof.Rows.signs x) ∨ lstOf M1 d = some (xs.map DL.D.str)) ∧ Few xs ∧
  ∀ ys : List Str, ys.Nodup → (∀ k, k ∈ ys ↔ k ∈ xs) → sortedS ys = true → newL fz (ys.map DL.D.str) M1 Q
variable {e : Expr} {t : DTE} {p p1 p2 pos : Pos}
theorem de_sortSet (fz : Bool) (m1 : X.mg "sorted" = none) (m2 : X.mg "set" = none) (he : DE X Y e t) (hc : X.calm = true := by rfl) (g1 : Gl X "sorted" := by rfl) (g2 : Gl X "set" := by rfl)
    (na : starEach [e] X.env = (false, eval e X.env) :: starEach [] X.env := by rfl) (nb : (backTo p2 (starEach [] X.env)).any (·.1) = false := by rfl)
    (na2 : starEach [.Call (.Name "set" p1) [e] [] p2] X.env = (false, eval (.Call (.Name "set" p1) [e] [] p2) X.env) :: starEach [] X.env := by rfl) (nb2 : (backTo pos (starEach [] X.env)).any (·.1) = false := by rfl) :
    DE X Y (.Call (.Name "sorted" p) [.Call (.Name "set" p1) [e] [] p2] [] pos) (dSortSet fz t) := by
  have b1 : bootBuiltins "sorted" = some (.builtin "sorted") := by decide +kernel
  have b2 : bootBuiltins "set" = some (.type "set") := by decide +kernel
  refine PE.weak (pe_callB (cr_sortTx hc) g1 m1 b1 (pa_cons (pe_callTy (cr_setTx hc) g2 m2 b2 (pa_cons he pa_nil na) (by decide) (by decide) na nb) pa_nil na2) (by decide) (by decide) na2 nb2) ?_
  rintro σ H Q0 ⟨F, M, ρ, Q, rs, rl, q, k⟩
  refine ⟨F, M, ρ, _, rs, rl, q, fun v d F1 M1 H1 s1 rp ⟨xs, src, few, q1⟩ => ?_⟩
  have go : ∀ p ks, H1 p = none → ks.Nodup → (∀ k, k ∈ ks ↔ k ∈ xs) → rSortTx X.w [.ref p] (upd H1 p (TxO X.w p ks)) Q0 := by
    intro p ks hp nd mem
    have s2 := s1.rel.newF hp (TxO X.w p ks)
    refine ⟨p, ks, rfl, upd_same, few ks nd fun k hk => (mem k).mp hk, fun ys p' pm so hp' => ?_⟩
    have g := q1 ys (pm.nodup_iff.mpr nd) (fun k => (pm.mem_iff).trans (mem k)) so
    exact newL_ok s2.rel (of_strs ys) g (fun v z F' M' H' s3 => k v z F' M' H' ((s1.trans s2).trans s3)) p' hp'
  rcases src with ⟨x, rfl, rfl⟩ | src
  · cases rp
    exact ⟨_, _, rfl, .inl ⟨x, rfl, rfl⟩, few, go⟩
  · obtain ⟨a, vs, rfl, h1, ra⟩ := lstOf_rp s1.rel rp src
    rw [rp_strs ra] at h1
    exact ⟨_, xs, rfl, .inr ⟨a, rfl, h1⟩, few, go⟩
end
end DL

/-! DL11: x[::-1]; a constant dict of numbers by texts. -/
namespace DL
open PySem PySem.Spec L2
open PyProof.Rows hiding St

section
variable {X : Cx} {Y : KJ X.K} {pos p p1 p2 p3 : Pos} {a b e st : Expr} {t u : DTE}
def rRev (fz : Bool) : DL.D → Mp → DK → Prop
  | .str z, M, Q => z.length ≤ sizeLine ∧ Q (.str (revT z)) M
  | .tup xs, M, Q => Q (.tup xs.reverse) M
  | x, M, Q => ∃ xs, lstOf M x = some xs ∧ newL fz xs.reverse M Q
def dRevS (fz : Bool) (t : DTE) : DTE := fun ρ M Q => t ρ M fun d M1 => rRev fz d M1 Q
theorem Sl3R.or {l h k : Option Int} {r1 r2 : V → Hp → VK → Prop} (a : Sl3R X l h k r1) (b : Sl3R X l h k r2) : Sl3R X l h k (fun x H Q => r1 x H Q ∨ r2 x H Q) := by
  intro pins s σ H x v vl vu vs sl Q I rx hs pl pu ps q
  rcases q with q | q
  · exact a pins s σ H x v vl vu vs sl Q I rx hs pl pu ps q
  · exact b pins s σ H x v vl vu vs sl Q I rx hs pl pu ps q
theorem de_revS (fz : Bool) {kd : Nat} (he : DE X Y e t) : DE X Y (.Subscript e (.Slice none none (some (.UnaryOp .USub (.Constant (.int 1) kd p1) p3)) p2) pos) (dRevS fz t) := by
  have hst : PO X (some (.UnaryOp .USub (.Constant (.int 1) kd p1) p3)) (fun _ H Q => Q (some (-1)) H) := by
    refine ⟨fun pins s σ H Q I q => ?_⟩
    exact (po_some (pe_un un_neg pe_int)).run pins s σ H Q I ⟨1, rfl, -1, rfl, q⟩
  have hl : Sl3R X none none (some (-1)) (fun x H Q => ∃ a xs, x = .ref a ∧ SqL X.K H a xs ∧ ∀ p, H p = none → Q (.ref p) (upd H p (.lst xs.reverse))) :=
    sl3_list (f := List.reverse) (g := List.reverse) (by decide) (fun its => PySem.W.krv_pick its.toArray) (fun r => r.reverse) (fun vs => by rw [List.length_reverse]; exact Nat.le_refl _)
  refine PE.weak (pe_slice3 (hl.or ((sl3_tupB (Y := Y)).or (sl3_strB (Y := Y)))) he po_n po_n hst) ?_
  rintro σ H Q0 ⟨F, M, ρ, Q, rs, rl, q, k⟩
  refine ⟨F, M, ρ, _, rs, rl, q, fun v d F1 M1 H1 s1 rp q1 => ?_⟩
  have k1 : ∀ v d F' M' H', Stp Y F1 M1 H1 F' M' H' → Rp X.K F' v d → Q d M' → Q0 v H' := fun v d F' M' H' s => k v d F' M' H' (s1.trans s)
  unfold rRev at q1
  split at q1
  · cases rp
    exact .inr (.inr ⟨_, rfl, q1.1, k1 _ _ F1 M1 H1 (Stp.refl s1.rel) (.str _) q1.2⟩)
  · cases rp with
    | tup sq ra =>
      exact .inr (.inl ⟨_, _, rfl, Same.tseq s1.rel.sub sq, fun p hp => newT_ok s1.rel ra.reverse q1 k1 p hp⟩)
  · obtain ⟨xs, e1, q1⟩ := q1
    obtain ⟨p, vs, rfl, h1, ra⟩ := lstOf_rp s1.rel rp e1
    exact .inl ⟨p, vs, rfl, h1, fun p hp => newL_ok s1.rel ra.reverse q1 k1 p hp⟩

/-! ### a constant dict -/
def kvE (kvs : List (Str × Int)) : List (TE × TE) := kvs.map fun kv => (tC (.str kv.1), tC (.int kv.2))
def kvV (kvs : List (Str × Int)) : List (Key × V) := kvs.map fun kv => (Sum.inr kv.1, V.int kv.2)
theorem tp_const {σ : St} {H : Hp} : ∀ {kvs : List (Str × Int)} {Q : List (V × V) → Hp → Prop}, Q (kvs.map fun kv => (V.str kv.1, V.int kv.2)) H → tPairs (kvE kvs) σ H Q
  | [], _, h => h
  | kv :: kvs, Q, h => tp_const (kvs := kvs) (Q := fun ps H3 => Q ((V.str kv.1, V.int kv.2) :: ps) H3) h
def dDictC (kvs : List (Str × Int)) : DTE := dC (.dct (kvs.map fun kv => Sum.inr kv.1) (kvs.map fun kv => .int kv.2))
theorem zip_kvV : ∀ kvs : List (Str × Int), (kvs.map fun kv => (Sum.inr kv.1 : Key)).zip (kvs.map fun kv => V.int kv.2) = kvV kvs
  | [] => rfl
  | kv :: kvs => by
    rw [List.map_cons, List.map_cons, List.zip_cons_cons, zip_kvV kvs]
    rfl
theorem of_kvV {K : PySem.W.Frag} {F : Hp} : ∀ kvs : List (Str × Int), RpAll K F (kvs.map fun kv => V.int kv.2) (kvs.map fun kv => D.int kv.2)
  | [] => .nil
  | kv :: kvs => .cons (.int _) (of_kvV kvs)
theorem de_dictC {keys : List (Option Expr)} {values : List Expr} (kvs : List (Str × Int)) (h : PPs X pos keys values (kvE kvs)) (hm : mergeK [] (kvV kvs) = kvV kvs) (hall : keys.all (·.isSome) = true := by rfl) (hl : keys.length = values.length := by rfl) (h0 : keys ≠ [] := by simp)
    (h15 : keys.length ≤ 15 := by decide) (few : kvs.length ≤ 15 := by decide) : DE X Y (.Dict keys values pos) (dDictC kvs) := by
  refine PE.weak (pe_disp h hall hl h0 h15) ?_
  rintro σ H Q0 ⟨F, M, ρ, Q, rs, rl, q, k⟩
  intro p hp
  refine tp_const ⟨upd_same, kvV kvs, ?_, by unfold kvV; rw [List.length_map]; exact few, ?_⟩
  · unfold kvV; rw [List.map_map]; rfl
  · rw [hm, L2.upd_upd]
    have s1 := rl.newF hp (.dK (kvV kvs))
    refine k _ _ _ M _ s1 (.dct (ks := kvs.map fun kv : Str × Int => (Sum.inr kv.1 : Key)) (xs := kvs.map fun kv : Str × Int => V.int kv.2) ?_ (by rw [List.length_map, List.length_map]) (of_kvV kvs)) q
    rw [zip_kvV]; exact upd_same
/-- what stands behind a key -/
def lkD (k : Int ⊕ Str) : List (Int ⊕ Str) → List DL.D → Option DL.D
  | j :: ks, d :: ds => if j = k then some d else lkD k ks ds
  | _, _ => none
theorem lk_rp {K : PySem.W.Frag} {F : Hp} (k : Key) : ∀ {ks : List Key} {vs : List V} {ds : List DL.D}, RpAll K F vs ds → ks.length = vs.length →
    (lkD k ks ds = none ∧ valV (ks.zip vs) k = none) ∨ ∃ d v, lkD k ks ds = some d ∧ valV (ks.zip vs) k = some v ∧ Rp K F v d
  | [], _, _, .nil, _ => .inl ⟨rfl, rfl⟩
  | _ :: _, _, _, .nil, h => by simp at h
  | [], _, _, .cons _ _, h => by simp at h
  | j :: ks, v :: vs, d :: ds, .cons a b, h => by
    by_cases e : j = k
    · exact .inr ⟨d, v, if_pos e, valV_pos e, a⟩
    · rcases lk_rp k (ks := ks) b (by simpa using h) with ⟨h1, h2⟩ | ⟨d', v', h1, h2, h3⟩
      · exact .inl ⟨(if_neg e).trans h1, (valV_neg e).trans h2⟩
      · exact .inr ⟨d', v', (if_neg e).trans h1, (valV_neg e).trans h2, h3⟩
def rInDk (neg : Bool) : RD2
  | .str x, .dct ks ds, M, Q => Q (.bl (if neg = true then !(lkD (.inr x) ks ds).isSome else (lkD (.inr x) ks ds).isSome)) M
  | _, _, _, _ => False
def rGetDk : RD2
  | .dct ks ds, .str x, M, Q => ∃ d, lkD (.inr x) ks ds = some d ∧ Q d M
  | _, _, _, _ => False
theorem can_inK {neg : Bool} {σ : St} {H : Hp} {Q0 : VK} (q : canE Y (dOp (rInDk neg) t u) σ H Q0) : canE Y t σ H fun y H1 => canE Y u σ H1 fun x H2 => ∃ a o, x = .ref a ∧ DGet H2 a y o ∧ Q0 (.bl (if neg = true then !o.isSome else o.isSome)) H2 := by
  obtain ⟨F, M, ρ, Q, rs, rl, q, k⟩ := q
  refine ⟨F, M, ρ, _, rs, rl, q, fun y d F1 M1 H1 s1 rp1 q1 => ?_⟩
  refine ⟨F1, M1, ρ, _, rs.mono s1.same, s1.rel, q1, fun x e F2 M2 H2 s2 rp2 q2 => ?_⟩
  unfold rInDk at q2
  split at q2
  · cases rp1
    cases rp2 with
    | dct at1 len ra =>
      refine ⟨_, _, rfl, .inl ⟨_, Sum.inr _, .inl (s2.rel.sub _ _ at1), rfl, rfl⟩, ?_⟩
      have k1 := k _ _ F2 M2 H2 (s1.trans s2) (.bl _) q2
      rcases lk_rp (Sum.inr _) ra len with ⟨h1, h2⟩ | ⟨d', v', h1, h2, h3⟩
      · rw [h1] at k1; rw [h2]; exact k1
      · rw [h1] at k1; rw [h2]; exact k1
  · exact q2.elim
theorem dt_cmpK {n : Nat} (hr : Room n X.A) (ha : DE X Y a t) (hb : DE X Y b u) (hm : behindInMarks .In b = false) : DT X Y (.Compare a [.In] [b] pos) (dB (dOp (rInDk false) t u)) := by
  have hu := hr.units
  refine PT.weak (pt_cmp (pc_din (by omega) ha hb) hm) ?_
  rintro σ H Q0 ⟨F, M, ρ, Q, rs, rl, q, k⟩
  refine can_inK (neg := false) (Q0 := fun x H1 => ∃ c, x = V.bl c ∧ Q0 c H1) ⟨F, M, ρ, _, rs, rl, q, fun v d F1 M1 H1 s1 rp ⟨c, e, q1⟩ => ?_⟩
  subst e
  cases rp
  exact ⟨c, rfl, k c F1 M1 H1 s1 q1⟩
theorem dt_cmpKN {n : Nat} (hr : Room n X.A) (ha : DE X Y a t) (hb : DE X Y b u) (hm : behindInMarks .NotIn b = false) : DT X Y (.Compare a [.NotIn] [b] pos) (dB (dOp (rInDk true) t u)) := by
  have hu := hr.units
  refine PT.weak (pt_cmp (pc_dnotin (by omega) ha hb) hm) ?_
  rintro σ H Q0 ⟨F, M, ρ, Q, rs, rl, q, k⟩
  refine can_inK (neg := true) (Q0 := fun x H1 => ∃ c, x = V.bl c ∧ Q0 c H1) ⟨F, M, ρ, _, rs, rl, q, fun v d F1 M1 H1 s1 rp ⟨c, e, q1⟩ => ?_⟩
  subst e
  cases rp
  exact ⟨c, rfl, k c F1 M1 H1 s1 q1⟩
theorem de_getK {n : Nat} (hr : Room n X.A) (ha : DE X Y a t) (hb : DE X Y b u) (hs : NoSl b := by exact fun _ _ => rfl) : DE X Y (.Subscript a b pos) (dOp rGetDk t u) := by
  have hu := hr.units
  refine PE.weak (pe_dget (by omega) ha hb hs) ?_
  rintro σ H Q0 ⟨F, M, ρ, Q, rs, rl, q, k⟩
  refine ⟨F, M, ρ, _, rs, rl, q, fun x d F1 M1 H1 s1 rp1 q1 => ?_⟩
  refine ⟨F1, M1, ρ, _, rs.mono s1.same, s1.rel, q1, fun y e F2 M2 H2 s2 rp2 q2 => ?_⟩
  unfold rGetDk at q2
  split at q2
  · obtain ⟨d', e1, q2⟩ := q2
    cases rp2
    cases rp1 with
    | dct at1 len ra =>
      rcases lk_rp (Sum.inr _) ra len with ⟨h1, h2⟩ | ⟨d2, v2, h1, h2, h3⟩
      · rw [e1] at h1; cases h1
      · rw [e1] at h1; cases h1
        exact ⟨_, v2, rfl, .inl ⟨_, Sum.inr _, .inl (s2.rel.sub _ _ (s2.same _ _ at1)), rfl, h2.symm⟩, k _ _ F2 M2 H2 (s1.trans s2) (h3.mono s2.same) q2⟩
  · exact q2.elim
end
end DL

/-! DL12: readings of comprehensions and loops by invariants; promises weakened. -/
namespace DL
open PySem PySem.Spec L2
open PyProof.Rows hiding St

/-- each item gives its own value, nothing else happens -/
theorem lc_map {g : DTG} {tt : DTT} {te : DTE} {G : Mp → Prop} {ρ : Rho} {k : List DL.D → Mp → Prop} {M : Mp} (f : DL.D → DL.D) (hG : G M) : ∀ (xs acc : List DL.D),
    (∀ x ∈ xs, ∀ (K1 : DK) (K2 : Mp → Prop), K1 (f x) M → g x ρ M fun ρ2 M2 => tt ρ2 M2 fun b M3 => if b = true then te ρ2 M3 K1 else K2 M3) →
    acc.length + xs.length ≤ sizeLine → k (acc ++ xs.map f) M → lcW g tt te G ρ k xs acc M
  | [], acc, _, _, h => ⟨hG, by simpa using h⟩
  | x :: xs, acc, step, hz, h => by
    refine ⟨hG, step x List.mem_cons_self _ _ ⟨by rw [List.length_cons] at hz; omega, ?_⟩⟩
    exact lc_map f hG xs (acc ++ [f x]) (fun y hy => step y (List.mem_cons_of_mem _ hy)) (by rw [List.length_append]; simp at hz ⊢; omega) (by simpa using h)
/-- the state moves along I, each value has P -/
theorem lc_inv {g : DTG} {tt : DTT} {te : DTE} {G : Mp → Prop} {ρ : Rho} {k : List DL.D → Mp → Prop} (I : Nat → Mp → Prop) (P : DL.D → Prop) (hG : ∀ n M, I n M → G M) : ∀ (xs acc : List DL.D) (M : Mp), I acc.length M → (∀ d ∈ acc, P d) →
    (∀ x ∈ xs, ∀ n M, I n M → n < acc.length + xs.length → ∀ (K1 : DK) (K2 : Mp → Prop), (∀ d M', P d → I (n + 1) M' → K1 d M') → g x ρ M fun ρ2 M2 => tt ρ2 M2 fun b M3 => if b = true then te ρ2 M3 K1 else K2 M3) →
    acc.length + xs.length ≤ sizeLine → (∀ ds M', ds.length = acc.length + xs.length → (∀ d ∈ ds, P d) → I ds.length M' → k ds M') → lcW g tt te G ρ k xs acc M
  | [], acc, M, i, p, _, _, h => ⟨hG _ _ i, h acc M (by simp) p i⟩
  | x :: xs, acc, M, i, p, step, hz, h => by
    refine ⟨hG _ _ i, step x List.mem_cons_self _ _ i (by simp) _ _ fun d M' pd i' => ⟨by rw [List.length_cons] at hz; omega, ?_⟩⟩
    refine lc_inv I P hG xs (acc ++ [d]) M' (by simpa using i') ?_ (fun y hy n M i hn => step y (List.mem_cons_of_mem _ hy) n M i (by simp at hn ⊢; omega)) (by rw [List.length_append]; simp at hz ⊢; omega) (fun ds M2 e q j => h ds M2 (by rw [e]; simp; omega) q j)
    intro d' hd'
    rcases List.mem_append.mp hd' with z | z
    · exact p d' z
    · rw [List.mem_singleton.mp z]; exact pd
/-- a for loop along I -/
theorem for_inv {g : DTG} {tb : DTS} {D : DEnds} {G : Mp → Prop} (I : Nat → Rho → Mp → Prop) (hG : ∀ n ρ M, I n ρ M → G M) : ∀ (xs : List DL.D) (n : Nat) (ρ : Rho) (M : Mp), I n ρ M →
    (∀ x ∈ xs, ∀ m ρ M, I m ρ M → m < n + xs.length → ∀ N : Rho → Mp → Prop, (∀ ρ' M', I (m + 1) ρ' M' → N ρ' M') → g x ρ M fun ρ2 M2 => tb { D with nx := N, ct := N, bk := D.nx } ρ2 M2) →
    (∀ ρ' M', I (n + xs.length) ρ' M' → D.nx ρ' M') → forW g tb D G xs ρ M
  | [], n, ρ, M, i, _, h => ⟨hG _ _ _ i, h ρ M (by simpa using i)⟩
  | x :: xs, n, ρ, M, i, step, h => by
    refine ⟨hG _ _ _ i, step x List.mem_cons_self n ρ M i (by simp) _ fun ρ' M' i' => ?_⟩
    exact for_inv I hG xs (n + 1) ρ' M' i' (fun y hy m ρ M j hm => step y (List.mem_cons_of_mem _ hy) m ρ M j (by simp at hm ⊢; omega)) fun ρ2 M2 j => h ρ2 M2 (by simpa [Nat.add_assoc, Nat.add_comm 1] using j)
/-- what stands in M1 beside M2 is forgotten -/
theorem StpR.forget {K : PySem.W.Frag} {T : TT8} {F F1 : Hp} {M M1 M2 : Mp} {H H1 : Hp} (s : StpR K T F M H F1 M1 H1) (h : ∀ a m, M2 a = some m → M1 a = some m) : StpR K T F M H F1 M2 H1 := by
  refine ⟨s.same, ⟨s.rel.sub, fun a m q => s.rel.mt a m (h a m q), s.rel.nt⟩, fun a o q f m n => ?_, s.tab⟩
  obtain ⟨h1, h2, h3⟩ := s.fr a o q f m n
  refine ⟨h1, h2, ?_⟩
  cases e : M2 a with
  | none => rfl
  | some m2 => rw [h a m2 e] at h3; cases h3
def SubM (M M' : Mp) : Prop := ∀ a m, M a = some m → M' a = some m
theorem SubM.refl (M : Mp) : SubM M M := fun _ _ h => h
theorem SubM.mu {M M' : Mp} (h : SubM M M') {a : Addr} (ha : M a = none) (o : MO) : SubM M (mu M' a o) := fun b m e => by
  have ne : b ≠ a := fun q => by rw [q, ha] at e; cases e
  rw [mu_ne ne]; exact h b m e
theorem SubM.md {M M' : Mp} (h : SubM M M') {a : Addr} (ha : M a = none) : SubM M (md M' a) := fun b m e => by
  have ne : b ≠ a := fun q => by rw [q, ha] at e; cases e
  unfold DL.md; rw [if_neg ne]; exact h b m e
theorem Cal.weak {P : Program} {w : World} {K : PySem.W.Frag} {T : TT8} {mg : Str → Option Value} {base : Heap} {k : Nat} {x : Str} {es : List DL.D} {sp1 sp2 : DSp} (C : Cal P w K T mg base k x es sp1)
    (h : ∀ ds M Q E, sp2 ds M Q E → sp1 ds M (fun d M1 => ∃ M2, SubM M2 M1 ∧ Q d M2) fun x v M1 => ∃ M2, SubM M2 M1 ∧ E x v M2) : Cal P w K T mg base k x es sp2 := by
  obtain ⟨f, fd, ps, dvs, us, G, m, kp, b, vd, rd⟩ := C.ex
  have w : ∀ vs H Q0 E0, lift K T sp2 vs H Q0 E0 → lift K T sp1 vs H Q0 E0 := by
    rintro vs H Q0 E0 ⟨ds, F, M, Q, E, rp, rl, tb, q, k, ke⟩
    refine ⟨ds, F, M, _, _, rp, rl, tb, h ds M Q E q, fun v d F' M' H' s r ⟨M2, sub, q2⟩ => k v d F' M2 H' (s.forget sub) r q2, fun x v cls d F' M' H' s r ⟨M2, sub, q2⟩ => ke x v cls d F' M2 H' (s.forget sub) r q2⟩
  exact ⟨f, fd, ps, dvs, us, ⟨fun z => G.many (w _ _ _ _ z), fun r g e b v z => G.go r g e b v (w _ _ _ _ z)⟩, m, kp, b, vd, rd⟩
theorem dcal {P : Program} {w : World} {K : PySem.W.Frag} {T : TT8} {mg : Str → Option Value} {base : Heap} {x qual : Str} {st : Stmt} {N ps : List Str} {es : List DL.D} {k : Nat} {sp : DSp} (h : Has K mg x qual st ps es) (S : FnScope N ps (defScope st)) {t : DXK → DTS}
    (body : ∀ f, DBody P w K T mg base k N qual st f t) (read : ∀ ds M Q E, sp ds M Q E → ds.length = ps.length ∧ t E { nx := fun _ M' => Q .non M', rt := Q } (dstart N ds) M) : Cal P w K T mg base (k + 1) x es sp := by
  obtain ⟨f, oc, od, dV, kV, doc, pm, an, cdv, ct, osl, us, dvs, lk, hcd, kp, m, b, vd, rd⟩ := h.ex
  exact ⟨f, _, ps, dvs, us, dgn lk hcd S (body f) read, m, kp, b, vd, rd⟩
/-- nothing can be asked of it -/
theorem Cal.none {P : Program} {w : World} {K : PySem.W.Frag} {T : TT8} {mg : Str → Option Value} {base : Heap} {x qual : Str} {st : Stmt} {ps : List Str} {es : List DL.D} {sp : DSp} (h : Has K mg x qual st ps es) (no : ∀ ds M Q E, ¬ sp ds M Q E) : Cal P w K T mg base 0 x es sp := by
  obtain ⟨f, oc, od, dV, kV, doc, pm, an, cdv, ct, osl, us, dvs, lk, hcd, kp, m, b, vd, rd⟩ := h.ex
  refine ⟨f, _, ps, dvs, us, ⟨?_, ?_⟩, m, kp, b, vd, rd⟩
  · rintro vs H Q E0 ⟨ds, F, M, Q, E, rp, _, _, q, _⟩
    exact (no _ _ _ _ q).elim
  · rintro A outer s H args us vs Q E0 _ _ _ _ _ ⟨ds, F, M, Q, E, rp, _, _, q, _⟩
    exact (no _ _ _ _ q).elim
/-! ### what the top has left -/
def Dfn (K : PySem.W.Frag) (x : Str) (st : Stmt) : Prop := ∃ (f : Addr) (oc : Value) (od : Option Addr) (kV doc pm : Value) (an : Option Addr) (cd ct : Value) (osl : Array (Option Value)),
  PySem.W.nsIn K mainGlobals x = some (some (.ref f)) ∧ K.lookup f = some ⟨oc, od, .func (PySem.W.fnOf x x (defArgs st) (defBody st) (defScope st) .none kV doc pm an cd ct), osl⟩ ∧ PySem.W.codeIn K cd x = true ∧ PySem.W.keepIn K (.ref f) = true
section
variable {K : PySem.W.Frag} {h : Heap} {mg : Str → Option Value} {x : Str} {st : Stmt} {f : Addr} {oc : Value} {od : Option Addr} {kV doc pm : Value} {an : Option Addr} {cd ct : Value} {osl : Array (Option Value)}
theorem dfn_mk (a : PySem.W.nsIn K mainGlobals x = some (some (.ref f))) (l : K.lookup f = some ⟨oc, od, .func (PySem.W.fnOf x x (defArgs st) (defBody st) (defScope st) .none kV doc pm an cd ct), osl⟩) (c : PySem.W.codeIn K cd x = true) (k : PySem.W.keepIn K (.ref f) = true) : Dfn K x st :=
  ⟨f, oc, od, kV, doc, pm, an, cd, ct, osl, a, l, c, k⟩
theorem has_of (X : K.In h) (G : h.Ns mainGlobals mg) {ps : List Str} (D : Dfn K x st)
    (b : ∀ (kV doc pm : Value) (an : Option Addr) (cd ct : Value) (us : List Value), us.length = ps.length → bindArgs (PySem.W.fnOf x x (defArgs st) (defBody st) (defScope st) .none kV doc pm an cd ct) ⟨us, []⟩ = pure (ps.zip us)) : Has K mg x x st ps [] := by
  obtain ⟨f, oc, od, kV, doc, pm, an, cd, ct, osl, a, l, c, k⟩ := D
  exact ⟨f, oc, od, .none, kV, doc, pm, an, cd, ct, osl, [], [], l, c, k, PySem.W.mg_of X G a, .all (b kV doc pm an cd ct), .nil, fun F => .nil⟩
/-- a def with one default, asked with all its arguments -/
def DfnT (K : PySem.W.Frag) (x : Str) (st : Stmt) : Prop := ∃ (f : Addr) (oc : Value) (od : Option Addr) (T : Addr) (o : Obj) (u : Value) (n : Nat) (kV doc pm : Value) (an : Option Addr) (cd ct : Value) (osl : Array (Option Value)),
  PySem.W.nsIn K mainGlobals x = some (some (.ref f)) ∧ K.lookup f = some ⟨oc, od, .func (PySem.W.fnOf x x (defArgs st) (defBody st) (defScope st) (.ref T) kV doc pm an cd ct), osl⟩ ∧ PySem.W.codeIn K cd x = true ∧ PySem.W.keepIn K (.ref f) = true ∧ K.lookup T = some o ∧ o.data = .seq [u].toArray n
theorem dfnT_mk {T : Addr} {c2 : Value} {d2 : Option Addr} {u : Value} {n : Nat} {s2 : Array (Option Value)} (a : PySem.W.nsIn K mainGlobals x = some (some (.ref f))) (l : K.lookup f = some ⟨oc, od, .func (PySem.W.fnOf x x (defArgs st) (defBody st) (defScope st) (.ref T) kV doc pm an cd ct), osl⟩) (c : PySem.W.codeIn K cd x = true) (k : PySem.W.keepIn K (.ref f) = true)
    (lT : K.lookup T = some ⟨c2, d2, .seq #[u] n, s2⟩) : DfnT K x st := ⟨f, oc, od, T, _, u, n, kV, doc, pm, an, cd, ct, osl, a, l, c, k, lT, rfl⟩
theorem hasT_of (X : K.In h) (G : h.Ns mainGlobals mg) {ps : List Str} (D : DfnT K x st)
    (b : ∀ (T : Addr) (kV doc pm : Value) (an : Option Addr) (cd ct : Value) (us its : List Value), us.length = ps.length → its.length = 1 →
      ∃ k, bindArgs (PySem.W.fnOf x x (defArgs st) (defBody st) (defScope st) (.ref T) kV doc pm an cd ct) ⟨us, []⟩ = seqItems? (.ref T) >>= k ∧ k (some its.toArray) = pure (ps.zip us)) : Has K mg x x st ps [] := by
  obtain ⟨f, oc, od, T, o, u, n, kV, doc, pm, an, cd, ct, osl, a, l, c, k, lT, oT⟩ := D
  refine ⟨f, oc, od, .ref T, kV, doc, pm, an, cd, ct, osl, [], [], l, c, k, PySem.W.mg_of X G a, fun s us X2 hl => ?_, .nil, fun F => .nil⟩
  rw [List.append_nil] at hl ⊢
  obtain ⟨kk, e1, e2⟩ := b T kV doc pm an cd ct us [u] hl rfl
  refine BindsTo.of_looks fun M => ?_
  rw [e1]
  exact looks_items X2 lT oT (.of_pure e2)
theorem glob_str (X : K.In h) (G : h.Ns mainGlobals mg) {y : Str} {t : Tok} (a : PySem.W.nsIn K mainGlobals x = some (some (.str y t))) : Glob K mg x (.str y) := ⟨.str y, _, PySem.W.mg_of X G a, ⟨t, rfl⟩, fun F => .str y⟩
theorem glob_int (X : K.In h) (G : h.Ns mainGlobals mg) {i : Int} {t : Tok} (a : PySem.W.nsIn K mainGlobals x = some (some (.int i t))) : Glob K mg x (.int i) := ⟨.int i, _, PySem.W.mg_of X G a, ⟨t, rfl⟩, fun F => .int i⟩
theorem glob_texts (X : K.In h) (G : h.Ns mainGlobals mg) {T : Addr} {od : Option Addr} {its : Array Value} {n : Nat} {sl : Array (Option Value)} {ws : List Str} (a : PySem.W.nsIn K mainGlobals x = some (some (.ref T))) (l : K.lookup T = some ⟨.type "tuple", od, .seq its n, sl⟩)
    (v : Vals (ws.map V.str) its.toList) (z : ws.length ≤ sizeLine) : Glob K mg x (.tup (ws.map D.str)) := by
  refine ⟨.ref T, _, PySem.W.mg_of X G a, rfl, fun F => .tup (.inr ⟨_, its, n, l, rfl, rfl, ?_, v⟩) (of_strs ws)⟩
  have := v.length
  rw [List.length_map] at this
  rw [← Array.length_toList, ← this]
  exact z
end
end DL

set_option maxHeartbeats 4000000
/-! DX1: own exceptions with a value: __init__, raise. -/
namespace DL
open PySem PySem.Spec L2
open PyProof.Rows hiding St

/-- the i-th def of a class -/
def methS (st : Stmt) (i : Nat) : Stmt := match st with
  | .ClassDef _ _ _ body _ _ _ _ _ _ _ => body.getD i (.Pass ⟨0, 0, 0, 0⟩)
  | _ => .Pass ⟨0, 0, 0, 0⟩
/-- TextError.__init__: the exception that is being made gets its dict -/
def spInit (K : PySem.W.Frag) : Sp := fun vs H Q _ => ∃ (a C : Addr) (u : V), vs = [.ref a, u] ∧ OexC K C ∧ PySem.W.findIn K (.ref C) "value" = some none ∧ H a = some (exo a C none) ∧
  ∀ dx, H dx = none → dx ≠ a → Q .non (upd (upd H dx (exd dx [("value", u)])) a (exo a C (some dx)))
def topT (i : Nat) : Stmt := PySem.Challenge.pw_eithermended_k27_programs_by_their_form.main.body.getD i (.Pass ⟨0, 0, 0, 0⟩)
abbrev st_init : Stmt := methS (topT 7) 0
theorem sc_init : FnScope ["self", "value"] ["self", "value"] (defScope st_init) := ⟨rfl, rfl, rfl, by decide +kernel, rfl, by decide +kernel, by decide +kernel⟩
section
variable {P : Program} {w : World} {K : PySem.W.Frag} {mg : Str → Option Value} {base : Heap} {fI : Addr} {fd : FuncData}
theorem ok_init (F : Fun K "__init__" "TextError.__init__" st_init fI fd) (mv : mg "ValueError" = none) (vV : PySem.W.findCls K (.type "ValueError") (.type "type") "__init__" = some (.val (.builtin "ValueError.__init__"))) :
    FnOk P w K mg base L2.CX0 1 fI fd ["self", "value"] (spInit K) := by
  refine F.ok sc_init (fun vs H Q E h => ?_) (fun cdv A outer s H vs Q E hr h => ?_)
  · obtain ⟨a, C, u, rfl, _⟩ := h; rfl
  obtain ⟨a, C, u, rfl, T, nv, ea, q⟩ := h
  refine ⟨_, pss_cons (ps_expr (pe_veinit rfl mv vV (pa_cons (pv 0) (pa_cons (pv 1) pa_nil)))) (pss_one (ps_ost (pv 0) (pv 1))), ?_⟩
  refine ⟨.ref a, rfl, u, rfl, a, C, [u], rfl, by simp, T, ea, ?_⟩
  exact ⟨u, rfl, .ref a, rfl, a, C, rfl, T, nv, .inl ⟨ea, fun dx n ne => q dx n ne⟩⟩
end
end DL

set_option maxHeartbeats 4000000
/-! DX2: raise C(e). -/
namespace DL
open PySem PySem.Spec L2
open PyProof.Rows hiding St

/-- an own exception class with one value, its __init__ as TextError's -/
structure ExC (P : Program) (w : World) (K : PySem.W.Frag) (mg : Str → Option Value) (base : Heap) (x : Str) : Prop where
  ex : ∃ (C fI : Addr) (fd : FuncData), mg x = some (.ref C) ∧ PySem.W.nsIn K mainGlobals x = some (some (.ref C)) ∧ OexC K C ∧ PySem.W.findIn K (.ref C) "__init__" = some (some (.ref fI)) ∧
    PySem.W.typeIn K (.ref fI) = some (.type "function") ∧ PySem.W.findIn K (.ref C) "value" = some none ∧ FnOk P w K mg base L2.CX0 1 fI fd ["self", "value"] (spInit K) ∧ Binds K fd ["self", "value"] []
def dRaise (x : Str) (t : DTE) (E : DXK) : DTS := fun _ ρ M => t ρ M fun v M1 => E x v M1
section
variable {X : Cx} {Y : KJ X.K} {p cp pos : Pos} {e : Expr} {t : DTE} {E : DXK} {x : Str}
theorem ds_raise (T : ExC X.prog X.w X.K X.mg X.base x) (hr : Room 2 X.A) (g : XG X Y E) (hc : X.calm = true) (he : DE X Y e t) (hg : Gl X x := by rfl) (hd : (x == ("__debug__" : Str)) = false := by decide)
    (hs : starEach [e] X.env = (false, eval e X.env) :: starEach [] X.env := by rfl) (hpl : (backTo cp (starEach [] X.env)).any (·.1) = false := by rfl) :
    DS X Y (.Raise (some (.Call (.Name x p) [e] [] cp)) none pos) (dRaise x t E) := by
  obtain ⟨C, fI, fd, hm, hn, T, iC, tI, nv, F1, hb⟩ := T.ex
  obtain ⟨W, tk, h⟩ := g.ex
  refine PS.weak (ps_raise hc tk (pmk_oex (dvs := []) T iC tI F1 hr hb .nil pass0 hg hm (da_cons he da_nil hs) hd hs hpl)) ?_
  rintro D0 σ H ⟨F, M, ρ, D, rs, rl, q, k⟩
  refine ⟨F, M, ρ, fun ds M1 => match ds with | [v] => E x v M1 | _ => False, rs, rl, q, ?_⟩
  intro vs ds F1 M1 H1 s1 rp z
  obtain ⟨v, rfl⟩ : ∃ v, ds = [v] := by
    match ds, z with
    | [v], _ => exact ⟨v, rfl⟩
  obtain ⟨u, rfl, ru⟩ := rp1 rp
  refine ⟨by simp, fun a ha => ⟨a, C, u, rfl, T, nv, upd_same, fun dx n ne => ?_⟩⟩
  have hdx : H1 dx = none := by rw [upd_ne ne] at n; exact n
  refine ⟨rfl, dx, [("value", u)], upd_same, by rw [upd_ne ne, upd_same], hdx, ?_⟩
  have e1 : upd (del (upd (upd (upd H1 a (exo a C none)) dx (exd dx [("value", u)])) a (exo a C (some dx))) a) dx (.xd [("value", u)]) = upd H1 dx (.xd [("value", u)]) := by
    funext b
    by_cases hb : b = dx
    · rw [hb, upd_same, upd_same]
    · rw [upd_ne hb, upd_ne hb]
      by_cases hba : b = a
      · rw [hba, del_same, ha]
      · rw [del_ne hba, upd_ne hba, upd_ne hb, upd_ne hba]
  rw [e1]
  have s2 := s1.rel.newF hdx (.xd [("value", u)])
  exact h σ _ M1 _ x v _ _ s2.rel ⟨C, dx, u, hn, rfl, rfl, upd_same, ru.mono s2.same⟩ z
end
end DL

set_option maxHeartbeats 4000000
/-! DX3: a caught exception that stays known behind its suite. -/
namespace DL
open PySem PySem.Spec L2
open PyProof.Rows hiding St

/-- the heap where the caught exception at a is known -/
def clm (cls : Value) (d : Option Addr) (a : Addr) (H : Hp) : Hp :=
  match cls, d with
  | .ref C, some dx => upd H a (ExK C dx a)
  | _, _ => H
theorem clm_of {C dx a : Addr} {H : Hp} : clm (.ref C) (some dx) a H = upd H a (ExK C dx a) := rfl
theorem inv_claim {X : Cx} {pins : List (Addr × Obj)} {σ : L2.St} {H : Hp} {s : Shared} {a : Addr} {oe : Obj} {vs : Array Value} {cls : Value} {d : Option Addr} (I : Inv X pins σ H s) (e : s.heap.get? a = some oe)
    (z : Zc cls d oe) (hd : oe.data = .fields vs) (n0 : X.s_0.heap.get? a = none) (nL : a ≠ X.env.locals) (np : ∀ p ∈ X.pn ++ pins, p.1 ≠ a) (na : H a = none) : Inv X pins σ (clm cls d a H) s := by
  unfold clm
  split
  case h_2 => exact I
  case h_1 C dx =>
  have keepH : ∀ {b : Addr} {o : HO}, H b = some o → upd H a (ExK C dx a) b = some o := fun {b o} q => by
    have hb : b ≠ a := fun w => by rw [w, na] at q; cases q
    rw [upd_ne hb]; exact q
  have un : Un X.fs X.ex X.H_0 (upd H a (ExK C dx a)) X.s_0.heap s.heap := by
    refine ⟨I.base.keep, I.base.slot, fun b o q n hx => ?_, I.base.there, fun b xs q => keepH (I.base.tups b xs q), fun b o u q => keepH (I.base.frzs b o u q), fun b ps q => ?_⟩
    · have hb : b ≠ a := fun w => by rw [w, n0] at q; cases q
      rw [upd_ne hb]; exact I.base.free b o q n hx
    · obtain ⟨more, r⟩ := I.base.tbls b ps q
      exact ⟨more, keepH r⟩
  have hok : HOk X.prog X.w (upd H a (ExK C dx a)) s.heap := fun b o q => by
    by_cases hb : b = a
    · subst hb
      rw [upd_same] at q; cases q
      exact ⟨⟨oe, vs, e, z, hd⟩, ⟨oe, e⟩, fun h1 h2 ⟨o1, v1, q1, q2, q3⟩ k => ⟨o1, v1, k _ q1, q2, q3⟩⟩
    · rw [upd_ne hb] at q
      exact (I.hok b o q).stay (fun _ _ _ q => q) (fun _ q => keepH q) fun _ _ q => keepH q
  refine ⟨I.ok, I.os, I.bare, un, I.loc, I.cell, ?_, fun x c q => ?_, fun p hp => ?_, hok, I.len⟩
  · rw [upd_ne (Ne.symm nL)]; exact I.free
  · have hc : c ≠ a := fun w => by
      obtain ⟨v, o, ho, hv⟩ := I.cell x c q
      rw [w, e] at ho; cases ho
      rw [hd] at hv; cases hv
    rw [upd_ne hc]; exact I.freeC x c q
  · obtain ⟨p1, p2, p3, p4, p5⟩ := I.pin p hp
    exact ⟨p1, by rw [upd_ne (np p hp)]; exact p2, p3, p4, p5⟩

section
variable {X : Cx} {x n : Str} {c : Value} {i : Nat} {body suite : List Stmt} {b₀ : Stmt} {np pos pos' : Pos} {tb : WX → L2.TS} {ts : Addr → Value → Option Addr → L2.TS} {Wo : WX}
/-- what is wished of an exception where the clause keeps it -/
def wKeep (K : PySem.W.Frag) (c : Value) (i : Nat) (ts : Addr → Value → Option Addr → L2.TS) (Wo : WX) (D : L2.Ends) : WX := fun cls d σ H =>
  ∃ b, PySem.W.exmOne K cls c = some b ∧ (b = false → Wo cls d σ H) ∧
    (b = true → ∀ a, H a = none → ts a cls d { nx := fun τ G => D.nx (τ.set i none) (clm cls d a G), rt := fun v G => D.rt v (clm cls d a G), bk := fun τ G => D.bk (τ.set i none) (clm cls d a G), ct := fun τ G => D.ct (τ.set i none) (clm cls d a G) } (σ.set i (some (.ref a))) H)
theorem ps_keep (stk : X.stack = X.env :: X.outer) (noex : X.ex = []) (fr : X.env.frame = some X.env.locals) (nd : X.N.Nodup) (ix : X.N[i]? = some n) (kd : X.env.kindOf n = some .local) (nm : Names X x c) (tk : Takes X Wo)
    (pb : ∀ (W : WX) (pn : List (Addr × Obj)) (xe : Value → Shared → Prop), Takes (X.tr pn xe) W → PassesOwn (model X.prog X.w) X.A X.env xe → PSs (X.tr pn xe) body (tb W))
    (ps : ∀ (a : Addr) (oe : Obj) (cls : Value) (d : Option Addr) (pn : List (Addr × Obj)), Zc cls d oe → (∃ vs, oe.data = .fields vs) → PSs (X.suite a ((a, oe) :: pn)) (b₀ :: suite) (ts a cls d)) :
    PS X (.Try body [.ExceptHandler (some (.Name x np)) (some n) (b₀ :: suite) pos'] [] [] pos) (fun D σ H => tb (wKeep X.K c i ts Wo D) D σ H) := by
  constructor
  intro pins s σ H D I0 want
  have okX := I0.ok
  have frX : X.A.frames = some (X.env :: X.outer) := stk ▸ okX.frames
  apply wpAny_Try_except
  let catch_ : Value → Shared → Prop := fun e s₁ => wpAny (model X.prog X.w) X.A (noteFrame e X.env) (fun _ s₂ => wpAny (model X.prog X.w) X.A (setFlight e none)
    (fun _ s₃ => wpAny (model X.prog X.w) X.A (handleBy e X.env [.ExceptHandler (some (.Name x np)) (some n) (b₀ :: suite) pos']) (SP X pins D) X.xe s₃) X.xe s₂) X.xe s₁
  have tkB : Takes (X.tr (X.pn ++ pins) catch_) (wKeep X.K c i ts Wo D) := by
    rintro _ s' ⟨a, B, sI, pins', τ, G, cls, d, rfl, JT, nb, up, sky, na, os, ag, b, eb, wno, wyes⟩
    have J : Inv X pins τ G sI := JT.ofTry okX
    have skyX : Sky B (X.env :: X.outer) a (Zc cls d) X.env.locals s'.heap := stk ▸ sky
    show wpAny (model X.prog X.w) X.A (noteFrame (.ref a) X.env) _ _ _
    apply Sky.land Zc.steady frX fr skyX
    intro h3 fl3 up3
    have Jl := J.landed (s' := { s' with heap := h3 }) nb fl3.1 (up.trans up3) os ag
    obtain ⟨oe, vs, ae, az, ad⟩ := fl3.there
    have offStk : a ∉ frs (X.env :: X.outer) := fun hm => by
      obtain ⟨_, o1, e1, q1⟩ := fl3.2.2.1.mem hm
      exact q1 _ (by rw [ae] at e1; cases e1; exact ad)
    have offL : a ≠ X.env.locals := fun w => offStk (List.mem_filterMap.mpr ⟨X.env, List.mem_cons_self, w ▸ fr⟩)
    have offF : a ∉ X.fs := fun hm => let ⟨en, m1, m2⟩ := List.mem_filterMap.mp hm; offStk (List.mem_filterMap.mpr ⟨en, List.mem_cons_of_mem _ m1, m2⟩)
    -- the object is none of the def's entry, none that is pinned
    have newI : sI.heap.get? a = none := by
      cases q : sI.heap.get? a with
      | none => rfl
      | some o =>
        have := nb a o q (stk ▸ offStk)
        rw [fl3.2.1] at this; cases this
    have new0 : X.s_0.heap.get? a = none := by
      cases q : X.s_0.heap.get? a with
      | none => rfl
      | some o =>
        obtain ⟨o', q'⟩ := J.base.there a o q (by rw [noex]; simp)
        rw [newI] at q'; cases q'
    have offP : ∀ p ∈ X.pn ++ pins, p.1 ≠ a := fun p hp w => by
      have := (J.pin p hp).1
      rw [w, newI] at this; cases this
    have Ss := Jl.suite ae ad na offL offF
    apply wpAny_handleBy_cons _ (by intro q; cases q)
    apply codeAny_handlers_test
    have looks : PySem.W.Looks (model X.prog X.w) h3 (typeOf (.ref a)) cls := fun A Q E s k q => wpAny_typeOf_ref (k _ _ ae) (az.1.symm ▸ q)
    have names : ∀ {Q E : Value → Shared → Prop}, Q c { s' with heap := h3 } → wpAny (model X.prog X.w) (X.A.mark (some (.ref a))) (eval (.Name x np) X.env) Q E { s' with heap := h3 } := by
      intro Q E q
      rcases nm with ⟨g1, g2, g3⟩
      rcases g3 with g3 | ⟨g3, g4, g5⟩
      · exact ld_glob (X := X.suite a ((a, oe) :: (X.pn ++ pins))) Ss g1 g3 q g2
      · exact ld_blt (X := X.suite a ((a, oe) :: (X.pn ++ pins))) Ss g1 g3 g4 q g5 g2
    apply names
    apply (PySem.W.exm_one (M := model X.prog X.w) Jl.kIn looks eb).here
    cases b
    · show wpAny _ X.A (handleBy (.ref a) X.env []) _ _ _
      apply wpAny_handleBy_nil
      have fl := fl3
      obtain ⟨_, _, _, oe', vs', T, oT, ts', he, hz, hd, h1, hr⟩ := fl3
      unfold PySem.passOn
      apply wpAny_bind
      apply wpAny_field he hd h1
      rw [if_neg (by simp)]
      have on : wpAny (model X.prog X.w) X.A (setFlight (.ref a) X.env.frame) (fun _ s4 => wpAny (model X.prog X.w) X.A (throw (.ref a) : Sem Flow) (SP X pins D) X.xe s4) X.xe { s' with heap := h3 } := by
        rw [fr]
        apply HandSPX.setFlight_upZ fl
        intro h4 held up4
        exact wpAny_throw (tk _ _ ⟨a, B, sI, pins, τ, G, cls, d, rfl, J, nb, (up.trans up3).trans up4, .inr (.inr (stk.symm ▸ held)), na, os, ag, wno rfl⟩)
      first
        | exact wpAny_bind (wpAny_pure (wpAny_bind on))
        | exact wpAny_bind on
    · apply codeAny_handlers_suite_as
      apply HandSPX.lands_againZ fl3
      intro h4 fl4 up4
      have J4 := J.landed (s' := { s' with heap := h4 }) nb fl4.1 ((up.trans up3).trans up4) os ag
      obtain ⟨o4, v4, ae4, az4, ad4⟩ := fl4.there
      have S4 := J4.suite ae4 ad4 na offL offF
      apply store_ok (X := X.suite a ((a, o4) :: (X.pn ++ pins))) (v := .ref a) S4 nd ix (.inl kd) rfl _ (.inr kd)
      intro s5 S5
      refine wpAny_mono ((ps a o4 cls d (X.pn ++ pins) az4 ⟨_, ad4⟩).run [] s5 _ G _ S5 (wyes rfl a na)) ?_ (fun _ _ z => False.elim z)
      intro f s6 sp
      have gone : ∀ {τ' : L2.St} {G' : Hp} {Q : Shared → Prop}, Inv (X.suite a ((a, o4) :: (X.pn ++ pins))) [] τ' G' s6 → (∀ s7, Inv X pins (τ'.set i none) (clm cls d a G') s7 → Q s7) →
          wpAny (model X.prog X.w) X.A (do bindName X.env n .none; unbindBehindTheSuite X.env n pos') (fun _ s7 => Q s7) X.xe s6 := by
        intro τ' G' Q S6 k
        have pa := S6.pin (a, o4) (List.mem_append_left _ List.mem_cons_self)
        exact gone_ok (inv_claim (S6.unsuite okX) pa.1 az4 ad4 new0 offL offP pa.2.1) nd ix kd k
      cases f with
      | ret u => obtain ⟨v6, τ6, G6, S6, r6, q6⟩ := sp; exact gone S6 fun s7 J7 => ⟨_, _, _, J7, r6, q6⟩
      | next => obtain ⟨τ6, G6, S6, q6⟩ := sp; exact gone S6 fun s7 J7 => ⟨_, _, J7, q6⟩
      | brk => obtain ⟨τ6, G6, S6, q6⟩ := sp; exact gone S6 fun s7 J7 => ⟨_, _, J7, q6⟩
      | cont => obtain ⟨τ6, G6, S6, q6⟩ := sp; exact gone S6 fun s7 J7 => ⟨_, _, J7, q6⟩
  refine wpAny_mono ((pb _ (X.pn ++ pins) catch_ tkB PassesOwn.looking).run [] s σ H D (I0.toTry _) want) ?_ (fun e s1 he => he)
  intro f s1 sp
  cases f with
  | next => obtain ⟨τ, G, J, q⟩ := sp; exact wpAny_execs_nil ⟨τ, G, J.ofTry okX, q⟩
  | ret u => obtain ⟨v, τ, G, J, r, q⟩ := sp; exact ⟨v, τ, G, J.ofTry okX, r, q⟩
  | brk => obtain ⟨τ, G, J, q⟩ := sp; exact ⟨τ, G, J.ofTry okX, q⟩
  | cont => obtain ⟨τ, G, J, q⟩ := sp; exact ⟨τ, G, J.ofTry okX, q⟩
end
end DL

set_option maxHeartbeats 4000000
/-! DX4a: a lambda called, the wish of its exception at the slots of the call. -/
namespace DL
open PySem PySem.Spec L2 LamX
open PyProof.Rows hiding St
section
variable {X : Cx} {pins : List (Addr × Obj)} {σ : L2.St} {H : Hp} {s : Shared}
/-- LamX.pe_act, the slots of the caller told -/
theorem pe_actS {CXg : CXT} {Eg : XK} {Ng : List Str} {qg : Str} {sg : Scope} {g f c' : Addr} {cdg pm ctv : Value} {params : Arguments} {body : Expr} {scope : Scope} {k i : Nat} {a : Str} {pn : List (Addr × Obj)} {xe : Value → Shared → Prop} {W : WX} {E : XK} {tb : L2.TE} {p1 p2 : Pos} {σ₀ : L2.St}
    (I : Inv X pins σ H s) (L : LamS X.env.scope scope) (hf : s.heap.get? f = some (PySem.W.kla_obj "<lambda>" (X.env.qual ++ "<lambda>") params body scope (cloFrom X.env.cells scope.names []) pm c' ctv)) (hfn : H f = none) (hfr : f ∉ frs X.stack)
    (bind : bindArgs (PySem.W.kla_fn "<lambda>" (X.env.qual ++ "<lambda>") params body scope (cloFrom X.env.cells scope.names []) pm (.ref c') ctv) ⟨[], []⟩ = pure [])
    (tk : Takes ((cxOf CXg X.prog X.w X.K X.mg X.base Ng qg sg g cdg X.A X.stack s H Eg).tr pn xe) W) (wE : ∀ cls d G, E cls d G → W cls d σ₀ G) (room : Room (k + 1) (X.A.deeper (envOfC qg sg s.heap.objs.size g cdg)))
    (pb : ∀ (A : Around) (outer : List Env) (s : Shared) (H : Hp), A.guards = X.A.guards → Room k (A.deeper (lamEnv X scope s.heap.objs.size f c')) → PE (lamCx X A outer s H E scope f c') body tb)
    (hN : Ng[i]? = some a) (hv : Vis sg a) (hd : (a == ("__debug__" : Str)) = false := by decide) (hcd : (a == ("__classdict__" : Str)) = false := by decide) :
    PE ((cxOf CXg X.prog X.w X.K X.mg X.base Ng qg sg g cdg X.A X.stack s H Eg).tr pn xe) (.Call (.Name a p1) [] [] p2)
      (fun σZ HZ Q => σZ = σ₀ ∧ σZ[i]? = some (some (.ref f)) ∧ HZ c' = some (CodeO c' (X.env.qual ++ "<lambda>")) ∧ tb σ HZ Q) := by
  constructor
  rintro pinsZ sZ σZ HZ Q IZ ⟨e0, slot, code, want⟩
  subst e0
  apply wpAny_Call_Name_kw
  refine thn ((pe_var (pos := p1) (i := i) hN hv hd hcd).run pinsZ sZ σZ HZ (fun v G => v = .ref f ∧ G = HZ) IZ ⟨.ref f, slot, rfl, rfl⟩) ?_
  rintro u s1 ⟨w0, G0, I1, rel, ev, eG⟩
  subst ev
  rw [eG] at I1
  obtain rfl : u = Value.ref f := rel
  have lam := I1.base.keep f _ hf hfn hfr (by intro z; cases z)
  apply PySem.W.callWith_F0 ⟨_, _, _, _, lam⟩
  obtain ⟨⟨oc, vs, t, c1, c2, c3⟩, _, _⟩ := I1.hok c' _ code
  have run : codeAny (model X.prog X.w) (X.A.deeper (envOfC qg sg s.heap.objs.size g cdg)) (.call (.ref f) ⟨[], []⟩) (CR (L2.CX X.prog X.w) (envOfC qg sg s.heap.objs.size g cdg :: X.stack) X.prog X.w HZ s1 Q E) s1 := by
    apply PySem.W.kla_callFunE room.depth lam rfl L.co L.gen rfl ⟨c', oc, vs, t, rfl, c1, c2, c3⟩
    rw [bind]
    apply wpAny_pure
    refine wpAny_newFunctionEnv (fun y hy => (L.own y hy).2) (fun y hy => absurd hy (by simp)) (fun h₁ ns sb => ?_) L.kind
    refine ⟨I1.nolimit.fresh _ sb, ?_⟩
    show codeAny _ _ (.expr body (lamEnv X scope s1.heap.objs.size f c')) _ _
    have J : Inv (lamCx X (X.A.deeper (envOfC qg sg s.heap.objs.size g cdg)) (envOfC qg sg s.heap.objs.size g cdg :: X.stack) s1 HZ E scope f c') [] σ HZ { s1 with heap := h₁, toks := s1.toks + ([] : List (Str × Value)).length } :=
      lam_start2 I L I1.env0 room.hd I1.base ns fun b o e => sb.extBut b o (Nat.ne_of_lt (Heap.lt_size e)) (Heap.get?_push_of_some _ e)
    refine PySem.W.kla_codeExpr (wpAny_mono ((pb (X.A.deeper (envOfC qg sg s.heap.objs.size g cdg)) _ s1 HZ rfl (room.deeper _)).run [] _ _ HZ Q J want) ?_ fun e s' q => q)
    rintro v s' ⟨w', G, J', rv, q⟩
    exact ⟨w', G, J'.os, J'.bare, J'.base, J'.hok, rv, q⟩
  apply wpAny_call
  refine codeAny_mono run ?_
  intro r s' res
  cases r with
  | error e => exact tk e s' (XE.of_call I1 (fun cls d G q => wE cls d G q) res)
  | ok fl => cases fl with
    | ret u => exact I1.after res
    | next => exact res.elim
    | brk => exact res.elim
    | cont => exact res.elim
end
end DL

set_option maxHeartbeats 4000000
/-! DX4b: a def that calls what it got, at told slots; its call with a lambda. -/
namespace DL
open PySem PySem.Spec L2 LamX
open PyProof.Rows hiding St

/-- the context of the def x at g, entered from X at s -/
abbrev Zg (X : Cx) (Ng : List Str) (x : Str) (sg : Scope) (g : Addr) (cdg : Value) (s : Shared) (H : Hp) : Cx := cxOf C8.CX0 X.prog X.w X.K X.mg X.base Ng x sg g cdg X.A X.stack s H C8.E0
abbrev TTv := (XK → Hp → VK → Prop) → Hp → VK → Prop
/-- as LamX.GivesTo, the slots told at each call of what it got -/
def GivesS (X : Cx) (Ng : List Str) (x : Str) (sg : Scope) (g : Addr) (cdg : Value) (bg : List Stmt) (a q : Str) (TT : TTv) : Prop :=
  ∀ (f c' : Addr) (s : Shared) (H : Hp) (Q : VK) (tl : XK → Hp → VK → Prop),
    (∀ (σ₀ : L2.St) (W : WX) (pn : List (Addr × Obj)) (xe : Value → Shared → Prop) (E : XK) (p1 p2 : Pos), Takes ((Zg X Ng x sg g cdg s H).tr pn xe) W → (∀ cls d G, E cls d G → W cls d σ₀ G) →
      PE ((Zg X Ng x sg g cdg s H).tr pn xe) (.Call (.Name a p1) [] [] p2) fun σ G R => σ = σ₀ ∧ σ[0]? = some (some (.ref f)) ∧ G c' = some (CodeO c' q) ∧ tl E G R) →
    H c' = some (CodeO c' q) → TT tl H Q → ∃ t, PSs (Zg X Ng x sg g cdg s H).nox bg t ∧ t { nx := fun _ G => Q .non G, rt := Q } (L2.start Ng [.ref f]) H
section
variable {X : Cx}
/-- x(lambda: body), x such a def -/
theorem pe_lamS {T : List (Addr × Str)} {TT : TTv} {x a : Str} {g c P : Addr} {k : Nat} {pg : Arguments} {bg : List Stmt} {sg : Scope} {dV kV doc pm cdv ct oc : Value} {an od : Option Addr} {osl : Array (Option Value)} {Ng : List Str}
    {params : Arguments} {body : Expr} {scope : Scope} {t : XK → L2.TE} {p lpos pos : Pos}
    (gl : Gl X x) (m : X.mg x = some (.ref g)) (kp : PySem.W.keepIn X.K (.ref g) = true) (lk : X.K.lookup g = some ⟨oc, od, .func (PySem.W.fnOf x x pg bg sg dV kV doc pm an cdv ct), osl⟩) (hcd : PySem.W.codeIn X.K cdv x = true)
    (bi : L2.Binds X.K (PySem.W.fnOf x x pg bg sg dV kV doc pm an cdv ct) [a] []) (S : FnScope Ng [a] sg) (N0 : Ng[0]? = some a) (vis : Vis sg a) (give : GivesS X Ng x sg g cdv bg a (X.env.qual ++ "<lambda>") TT)
    (tb : TabB X.base X.mg c P) (cod : X.env.code = .ref c) (inT : (P, X.env.qual ++ "<lambda>") ∈ T) (onlyT : ∀ p ∈ T, p.1 = P → p.2 = X.env.qual ++ "<lambda>") (room : Room (k + 2) X.A) (L : LamS X.env.scope scope) (nodef : defaultsOf params X.env = ([], []))
    (noarg : ∀ (q : Str) (cl : List (Str × Addr)) (pm cv ctv : Value), bindArgs (PySem.W.kla_fn "<lambda>" q params body scope cl pm cv ctv) ⟨[], []⟩ = pure [])
    (inner : ∀ (A : Around) (outer : List Env) (s : Shared) (H : Hp) (E : XK) (f c' : Addr), A.guards = X.A.guards → Room k (A.deeper (lamEnv X scope s.heap.objs.size f c')) → PE (lamCx X A outer s H E scope f c') body (t E))
    (n1 : (x == ("__debug__" : Str)) = false := by decide) (n2 : (a == ("__debug__" : Str)) = false := by decide) (n3 : (a == ("__classdict__" : Str)) = false := by decide) :
    PE X (.Call (.Name x p) [.Lambda params body scope lpos] [] pos) (tLam T TT t) := by
  constructor
  rintro pins s σ H Q I ⟨tabs, nxt⟩
  apply wpAny_Call_Name_kw
  refine ld_glob I gl m ?_ n1
  refine PySem.W.callWith_K (h₀ := X.base) I.ok.mod.kin kp ?_ (by rfl) (by rfl)
  show wpAny _ _ (spliced ((false, eval (.Lambda params body scope lpos) X.env) :: backTo pos (starEach [] X.env))) _ _ s
  apply Calls.spliced_cons
  apply lam_make2 I tb cod inT onlyT tabs nodef (L.has I.ok)
  intro f c' pm' ctv H1 s' I1 eN T1 hf hfn hfr hco
  refine Calls.spliced_nil ⟨I1.kIn, ?_⟩
  have run : codeAny (model X.prog X.w) X.A (.call (.ref g) ⟨[.ref f], []⟩) (CR C8.CX0 X.stack X.prog X.w H1 s' Q C8.E0) s' := by
    refine run_ofS (N := Ng) (ps := [a]) (us := [.ref f]) (vs := [.ref f]) lk hcd S room I1.env0 (bi s' [.ref f] I1.kIn rfl) (.cons rfl .nil) rfl ?_
    intro room'
    obtain ⟨u, hu, hq⟩ := give f c' s' H1 Q (fun E G R => t E σ G R) (fun σ₀ W pn xe E p1 p2 tk wE =>
      pe_actS (i := 0) (CXg := C8.CX0) (Eg := C8.E0) I1 L hf hfn hfr (noarg _ _ _ _ _) tk wE room' (fun A outer s H gA r2 => inner A outer s H E f c' gA r2) N0 vis n2 n3) hco (nxt H1 eN T1)
    exact ⟨u, hu.nox, hq⟩
  apply wpAny_call
  refine codeAny_mono run ?_
  intro r s2 q
  match r, q with
  | .error _, q => exact (show False from q).elim
  | .ok (.ret u), q => exact I1.after q
  | .ok .next, q => exact q.elim
  | .ok .brk, q => exact q.elim
  | .ok .cont, q => exact q.elim
end
end DL

set_option maxHeartbeats 4000000
/-! DX4c: a def that calls what it got and tells what was heard. -/
namespace DL
open PySem PySem.Spec L2 LamX
open PyProof.Rows hiding St

/-- caught, back = None, None; try: back = a() except C as error: caught = error; return caught, back -/
def THeard (K : PySem.W.Frag) (CS : Addr) : TTv := fun tl H Q =>
  ∀ p0, H p0 = none → tl (fun cls d G => PySem.W.exmOne K cls (.ref CS) = some true ∧ ∀ a, G a = none → ∀ p, clm cls d a G p = none → Q (.ref p) (upd (clm cls d a G) p (.tup [.ref a, .non]))) (upd H p0 (.tup [.non, .non]))
    (fun v G => ∀ p, G p = none → Q (.ref p) (upd G p (.tup [.non, v])))
section
variable {X : Cx}
theorem PE.up {e : Expr} {t : L2.TE} (h : PE X e t) : PE X e fun σ H Q => ∃ R, t σ H R ∧ ∀ v G, R v G → Q v G := by
  constructor
  rintro pins s σ H Q I ⟨R, z, k⟩
  refine wpAny_mono (h.run pins s σ H R I z) ?_ fun _ _ x => x
  rintro u s1 ⟨v, G, J, r, q⟩
  exact ⟨v, G, J, r, k v G q⟩
theorem heard_gives {x a cg bk er e q : Str} {sg : Scope} {g CS : Addr} {cdg : Value} {j1 j2 : Nat} {k1 k2 k3 : Nat} {p1 p2 p3 p4 p5 p6 p7 p8 p9 q1 q2 q3 q4 q5 q6 q7 q8 q9 r1 r2 r3 : Pos}
    (hge : sg.names.lookup e = some .globalImplicit) (hme : X.mg e = some (.ref CS)) (hde : (e == ("__debug__" : Str)) = false) (hc1 : sg.names.lookup cg = some .local) (hc2 : sg.names.lookup bk = some .local) (hc3 : sg.names.lookup er = some .local)
    (nd : [a, cg, bk, er].Nodup)
    (hw : ∀ env : Env, env.scope = sg → swappedStores [.Tuple [.Name cg p1, .Name bk p2] k1 p3] (.Tuple [.Constant .none j1 p4, .Constant .none j2 p5] k2 p6) env = pure none)
    (hs : ∀ env : Env, env.scope = sg → swapsWithSole [.Tuple [.Name cg p1, .Name bk p2] k1 p3] (.Tuple [.Constant .none j1 p4, .Constant .none j2 p5] k2 p6) p7.line env = pure false)
    (hsw : ∀ env : Env, env.scope = sg → swapsWith (.Call (.Name a p9) [] [] q1) (some (.Name bk p8)) q2.line env = pure false) (hsw2 : ∀ env : Env, env.scope = sg → swapsWith (.Name er q5) (some (.Name cg q4)) q6.line env = pure false)
    (d1 : (cg == ("__debug__" : Str)) = false) (d2 : (bk == ("__debug__" : Str)) = false) (d3 : (er == ("__debug__" : Str)) = false) (e1 : (cg == ("__classdict__" : Str)) = false) (e2 : (bk == ("__classdict__" : Str)) = false) (e3 : (er == ("__classdict__" : Str)) = false) : GivesS X [a, cg, bk, er] x sg g cdg
      [.Assign [.Tuple [.Name cg p1, .Name bk p2] k1 p3] (.Tuple [.Constant .none j1 p4, .Constant .none j2 p5] k2 p6) p7,
       .Try [.Assign [.Name bk p8] (.Call (.Name a p9) [] [] q1) q2] [.ExceptHandler (some (.Name e q3)) (some er) [.Assign [.Name cg q4] (.Name er q5) q6] q7] [] [] q8,
       .Return (some (.Tuple [.Name cg q9, .Name bk r1] k3 r2)) r3] a q (THeard X.K CS) := by
  intro f c' s H Q tl act hc h
  let Z := (Zg X [a, cg, bk, er] x sg g cdg s H).nox
  have es : Z.env.scope = sg := rfl
  have hgl : Gl Z e := hge
  refine ⟨_, pss_cons (ps_asg (X := Z) (pe_tup (pa_cons pe_non (pa_cons pe_non pa_nil))) (pg_tup rfl (pgs_cons (pg_name (i := 1) nd rfl (.inl hc1) (.inr hc1)) (pgs_cons (pg_name (i := 2) nd rfl (.inl hc2) (.inr hc2)) pgs_nil))) (hs _ es) (hw _ es))
    (pss_cons (ps_keep (X := Z) (i := 3) (c := .ref CS) (Wo := fun _ _ _ _ => False) (ts := fun _ _ _ => tAsg (tVar 3) (gName 1))
      (tb := fun W D σ H => ∃ Ech : XK, (∀ cls d G, Ech cls d G → W cls d σ G) ∧ σ[0]? = some (some (.ref f)) ∧ H c' = some (CodeO c' q) ∧ ∃ R, tl Ech H R ∧ ∀ v G, R v G → D.nx (σ.set 2 (some v)) G)
      rfl rfl rfl nd rfl hc3 ⟨hgl, hde, .inl hme⟩ L2.takes0 (fun W pn xe tk _ => ?_) (fun a oe cls d pn _ _ => pss_one (ps_set nd rfl (.inl hc1) (pe_var rfl (.inl hc3) d3 e3) (hsw2 _ es) (.inr hc1))))
    (pss_one (ps_ret (pe_tup (pa_cons (pe_var (i := 1) rfl (.inl hc1) d1 e1) (pa_cons (pe_var (i := 2) rfl (.inl hc2) d2 e2) pa_nil)))))), ?_⟩
  · constructor
    rintro pins s' σ G D I ⟨Ech, hW, h1, h2, R, h3, h4⟩
    have one := act σ W pn xe Ech p9 q1 tk hW
    have two := pss_one (ps_set (i := 2) (pos := q2) (pos' := p8) nd rfl (.inl hc2) (PE.up one) (hsw _ es) (.inr hc2))
    exact two.run pins s' σ G D I ⟨R, ⟨rfl, h1, h2, h3⟩, h4⟩
  · refine ⟨by show 2 ≤ sizeLine; rw [sizeLine_eq]; omega, fun p0 hp0 => ?_⟩
    have hc0 : upd H p0 (.tup [.non, .non]) c' = some (CodeO c' q) := by rw [upd_ne (ne_of_none hc hp0)]; exact hc
    refine ⟨p0, [.non, .non], rfl, .inl (.inl upd_same), rfl, ?_⟩
    refine ⟨.non, [.non], rfl, .non, [], rfl, rfl, ?_⟩
    refine ⟨fun cls d G => PySem.W.exmOne X.K cls (.ref CS) = some true ∧ ∀ a, G a = none → ∀ p, clm cls d a G p = none → Q (.ref p) (upd (clm cls d a G) p (.tup [.ref a, .non])), ?_, rfl, hc0, ?_⟩
    · rintro cls d G ⟨b1, b2⟩
      refine ⟨true, b1, fun z => (Bool.noConfusion z), fun _ b hb => ?_⟩
      refine ⟨.ref b, rfl, ?_⟩
      refine ⟨.ref b, rfl, .non, rfl, ?_⟩
      refine ⟨by show 2 ≤ sizeLine; rw [sizeLine_eq]; omega, fun p hp => b2 b hb p hp⟩
    · refine ⟨_, h p0 hp0, fun v G hv => ?_⟩
      refine ⟨.non, rfl, ?_⟩
      refine ⟨v, rfl, ?_⟩
      refine ⟨by show 2 ≤ sizeLine; rw [sizeLine_eq]; omega, fun p hp => hv p hp⟩
end
end DL

set_option maxHeartbeats 4000000
/-! DX4d: heard(lambda: e) over data. -/
namespace DL
open PySem PySem.Spec L2 LamX
open PyProof.Rows hiding St

/-- a state behind a given one -/
def fromY {K : PySem.W.Frag} (Y : KJ K) (F : Hp) (M : Mp) (H : Hp) : KJ K where
  T := Y.T
  J := fun F' M' H' => StpR K Y.T F M H F' M' H' ∧ Y.J F' M' H'
  cl := fun ⟨a, j⟩ s => ⟨a.trans s, Y.cl j s⟩
/-- the tables may grow -/
theorem RelR.ext {K : PySem.W.Frag} {T : TT8} {F : Hp} {M : Mp} {H H1 : Hp} (R : RelR K F M H) (e : ExtN H H1) (t : Tabs T H → Tabs T H1) : StpR K T F M H F M H1 := by
  refine ⟨Same.refl F, ⟨fun a o q => e a o (R.sub a o q) fun ps z => R.nt a ps (by rw [q, z]), fun a m q => ?_, R.nt⟩, fun a o q f m n => ⟨e a o q n, f, m⟩, t⟩
  obtain ⟨f, o, e1, r⟩ := R.mt a m q
  refine ⟨f, o, e a o e1 ?_, r⟩
  rintro ps rfl
  cases m <;> exact r.elim
theorem exK_tbl {C dx a : Addr} (ps : Array Value) : ExK C dx a ≠ .tbl ps := fun z => by
  unfold ExK at z
  cases z
def dHeard (ok : Str → Prop) (td : DXK → DTE) : DTE := fun ρ M Q => td (fun x v M1 => ok x ∧ Q (.tup [.exc x v, .non]) M1) ρ M fun v M1 => Q (.tup [.non, v]) M1
section
variable {X : Cx} {Y : KJ X.K}
theorem de_heard {x a : Str} {st : Stmt} {Ng : List Str} {CS c P : Addr} {k : Nat} {params : Arguments} {body : Expr} {scope : Scope} {td : DXK → DTE} {ok : Str → Prop} {p lpos pos : Pos}
    (D : Has X.K X.mg x x st [a] []) (S : FnScope Ng [a] (defScope st)) (give : ∀ (g : Addr) (cdv : Value) (q : Str), GivesS X Ng x (defScope st) g cdv (defBody st) a q (THeard X.K CS))
    (tb : TabB X.base X.mg c P) (cod : X.env.code = .ref c) (inT : (P, X.env.qual ++ "<lambda>") ∈ Y.T) (onlyT : ∀ p ∈ Y.T, p.1 = P → p.2 = X.env.qual ++ "<lambda>")
    (sub : ∀ n C, ok n → PySem.W.nsIn X.K mainGlobals n = some (some (.ref C)) → PySem.W.exmOne X.K (.ref C) (.ref CS) = some true) (hr : Room (k + 2) X.A) (gu : X.A.guards = some []) (xt : XT Y) (L : LamS X.env.scope scope)
    (inner : ∀ (A : Around) (outer : List Env) (s : Shared) (H : Hp) (E : XK) (f c' : Addr) (Y' : KJ X.K) (E1 : DXK), Y'.T = Y.T → Room k (A.deeper (lamEnv X scope s.heap.objs.size f c')) → (A.deeper (lamEnv X scope s.heap.objs.size f c')).guards = some [] →
      XG (lamCx X A outer s H E scope f c') Y' E1 → DE (lamCx X A outer s H E scope f c') Y' body (td E1))
    (nodef : defaultsOf params X.env = ([], []) := by rfl) (noarg : ∀ (q : Str) (cl : List (Str × Addr)) (pm cv ctv : Value), bindArgs (PySem.W.kla_fn "<lambda>" q params body scope cl pm cv ctv) ⟨[], []⟩ = pure [] := by intros; rfl)
    (gl : Gl X x := by rfl) (N0 : Ng[0]? = some a := by rfl) (vis : Vis (defScope st) a := by first | exact Or.inl rfl | exact Or.inr (Or.inl rfl))
    (n1 : (x == ("__debug__" : Str)) = false := by decide) (n2 : (a == ("__debug__" : Str)) = false := by decide) (n3 : (a == ("__classdict__" : Str)) = false := by decide) :
    DE X Y (.Call (.Name x p) [.Lambda params body scope lpos] [] pos) (dHeard ok td) := by
  obtain ⟨g, oc, od, dV, kV, doc, pm, an, cdv, ct, osl, us, dvs, lk, hcd, kp, m, bi, vd, rd⟩ := D.ex
  have u0 : us = [] ∧ dvs = [] := by
    have := rd (fun _ => none)
    cases this
    cases vd
    exact ⟨rfl, rfl⟩
  obtain ⟨rfl, rfl⟩ := u0
  refine PE.weak (pe_lamS (T := Y.T) (TT := THeard X.K CS) (k := k) (t := fun E0 σ G R => ∃ (Y' : KJ X.K) (E1 : DXK), Y'.T = Y.T ∧ (∀ F M H, Y'.J F M H → Tabs Y'.T H) ∧ (∀ F M H x v cls d, Rel Y' F M H → ExR X.K F x v cls d → E1 x v M → E0 cls d H) ∧ canE Y' (td E1) σ G R)
    gl m kp lk hcd bi S N0 vis (give g cdv _) tb cod inT onlyT hr L nodef noarg ?_ n1 n2 n3) ?_
  · intro A outer s H E f c' gA r
    constructor
    rintro pins s1 σ H1 Q I ⟨Y', E1, eT, tabs, wish, can⟩
    exact (inner A outer s H E f c' Y' E1 eT r (gA.trans gu) ⟨tabs, _, takes_of rfl rfl rfl rfl, fun σ F M H x v cls d R e z => wish F M H x v cls d R e z⟩).run pins s1 σ H1 Q I can
  · rintro σ H Q0 ⟨F, M, ρ, Q, rs, r, q, kk⟩
    refine ⟨xt.tabs _ _ _ r.j, fun H1 eN T1 => ?_⟩
    have st := r.r.ext eN (fun _ => T1)
    intro p0 hp0
    have sp := RelR.newF (T := Y.T) st.rel hp0 (.tup [.non, .non]) (fun ps w => by cases w)
    have st := st.trans sp
    have r1 : Rel (fromY Y (upd F p0 (.tup [.non, .non])) M (upd H1 p0 (.tup [.non, .non]))) (upd F p0 (.tup [.non, .non])) M (upd H1 p0 (.tup [.non, .non])) := ⟨st.rel, StpR.refl st.rel, Y.cl r.j st⟩
    refine ⟨fromY Y (upd F p0 (.tup [.non, .non])) M (upd H1 p0 (.tup [.non, .non])), fun x v M1 => ok x ∧ Q (.tup [.exc x v, .non]) M1, rfl, fun F M H j => xt.tabs _ _ _ j.2, ?_, _, M, ρ, _, rs.mono sp.same, r1, q, ?_⟩
    · rintro F2 M2 H2 n v cls d R2 ⟨C, dx, u, en, rfl, rfl, ed, ru⟩ ⟨okn, z⟩
      refine ⟨sub n C okn en, fun a ha p hp => ?_⟩
      rw [clm_of] at hp ⊢
      have s1 := RelR.newF (T := Y.T) R2.r ha (ExK C dx a) exK_tbl
      have s2 := RelR.newF (T := Y.T) s1.rel hp (.tup [.ref a, .non]) (fun ps w => by cases w)
      have ne : a ≠ p := fun w => by rw [w, upd_same] at hp; cases hp
      have nd : dx ≠ a := fun w => by rw [w, R2.r.fnone ha] at ed; cases ed
      refine kk (.ref p) (.tup [.exc n v, .non]) _ _ _ (Stp.of r ((st.trans R2.j.1).trans (s1.trans s2))) (.tup (.inl (.inl upd_same)) (.cons (.exc (dx := dx) en ?_ ?_ (ru.mono (s1.same.trans s2.same))) (.cons .non .nil))) z
      · exact s2.same _ _ upd_same
      · exact s2.same _ _ (s1.same _ _ ed)
    · intro v d F2 M2 H2 s2 rp q2 p hp
      have s3 := RelR.newF (T := Y.T) s2.rel.r hp (.tup [.non, v]) (fun ps w => by cases w)
      exact kk (.ref p) (.tup [.non, d]) _ _ _ (Stp.of r ((st.trans s2.s).trans s3)) (.tup (.inl (.inl upd_same)) (.cons .non (.cons (rp.mono s3.same) .nil))) q2
end
end DL

set_option maxHeartbeats 4000000
/-! DX5: a known exception: its value, its class. -/
namespace DL
open PySem PySem.Spec L2
open PyProof.Rows hiding St

/-- the exception classes that may be heard -/
structure Known (K : PySem.W.Frag) (kn : Str → Prop) : Prop where
  of : ∀ x C, kn x → PySem.W.nsIn K mainGlobals x = some (some (.ref C)) → XfC K C ∧ ExcC K C ∧ PySem.W.findIn K (.ref C) "value" = some none
/-- each class under x is one of the class at CY just if b x -/
def SubsOf (K : PySem.W.Frag) (kn : Str → Prop) (CY : Addr) (b : Str → Bool) : Prop := ∀ x C, kn x → PySem.W.nsIn K mainGlobals x = some (some (.ref C)) → PySem.W.kitOne K (.ref C) (.ref CY) = some (b x)
section
variable {X : Cx} {Y : KJ X.K} {p p' pos : Pos} {e : Expr} {t : DTE} {kn : Str → Prop}
theorem inst_exc {pins : List (Addr × Obj)} {σ : L2.St} {H : Hp} {s : Shared} {a C dx : Addr} {fs : List (Str × V)} (I : Inv X pins σ H s) (h1 : H a = some (ExK C dx a)) (h2 : H dx = some (.xd fs)) :
    ∃ (oe od : Obj) (mA : Str → Option Value), PySem.W.InstAt s.heap a oe C (some od) ∧ (∀ n, PySem.W.lookIn n od = some (mA n)) ∧ ∀ f, RelO (fs.lookup f) (mA f) := by
  obtain ⟨⟨oe, vs, he, hz, hd⟩, _, _⟩ := I.hok a _ h1
  have hx : ObjOk X.prog X.w H s.heap dx (.xd fs) := I.hok dx _ h2
  obtain ⟨mA, hns, hr⟩ := hx
  obtain ⟨od, ho, hl⟩ := lookIn_ns hns
  exact ⟨oe, od, mA, ⟨he, hz.1, by unfold PySem.W.notCls; rw [hd] <;> rfl, by rw [hz.2]; exact ho⟩, hl, hr⟩
/-- e.value -/
def dExcV (kn : Str → Prop) (t : DTE) : DTE := fun ρ M Q => t ρ M fun d M1 => ∃ x v, d = .exc x v ∧ kn x ∧ Q v M1
theorem de_excV (T : Known X.K kn) (he : DE X Y e t) (hb : attributeBase e "value" X.env (eval e X.env) = eval e X.env := by rfl) : DE X Y (.Attribute e "value" pos) (dExcV kn t) := by
  constructor
  rintro pins s σ H Q0 I ⟨F, M, ρ, Q, rs, rl, q, k⟩
  let R : VK := fun v H1 => ∃ (a C dx : Addr) (w : V), v = .ref a ∧ XfC X.K C ∧ PySem.W.findIn X.K (.ref C) "value" = some none ∧ H1 a = some (ExK C dx a) ∧ H1 dx = some (.xd [("value", w)]) ∧ Q0 w H1
  refine attr_of hb (thn (he.run pins s σ H R I ⟨F, M, ρ, _, rs, rl, q, fun v d F1 M1 H1 s1 rp q1 => ?_⟩) fun u s1 hh => ?_)
  · obtain ⟨x, w, rfl, kx, q2⟩ := q1
    cases rp with
    | exc en e1 e2 rw_ =>
      obtain ⟨k1, k2, k3⟩ := T.of _ _ kx en
      exact ⟨_, _, _, _, rfl, k1, k3, s1.rel.sub _ _ e1, s1.rel.sub _ _ e2, k _ _ F1 M1 H1 s1 rw_ q2⟩
  · obtain ⟨v, H1, I1, rv, a, C, dx, w, rfl, T1, no, e1, e2, q⟩ := hh
    obtain rfl : u = Value.ref a := rv
    obtain ⟨oe, od, mA, J, hl, hr⟩ := inst_exc I1 e1 e2
    obtain ⟨z, hz, rz⟩ := RelO.some_of (v := w) (o := mA "value") (hr "value")
    exact HandSPX.exc_get I1.kIn J T1.ga T1.gg T1.exC (PySem.W.findObj_own T1.hdC no rfl (by rw [hl, hz])) (handed_of rz) ⟨w, H1, I1.tok _, rz, q⟩
/-- isinstance(e, C) of a known exception -/
def rIsH (K : PySem.W.Frag) : List V → Hp → VK → Prop := fun xs H Q => ∃ (a C dx CY : Addr) (fs : List (Str × V)) (b : Bool), xs = [.ref a, .ref CY] ∧ H a = some (ExK C dx a) ∧ H dx = some (.xd fs) ∧ ExcC K C ∧ PySem.W.kitOne K (.ref C) (.ref CY) = some b ∧ Q (.bl b) H
theorem call_isH : CallR X (.builtin "isinstance") (rIsH X.K) := by
  rintro pins s σ H xs us Q I r ⟨a, C, dx, CY, fs, b, rfl, e1, e2, T, ek, q⟩
  cases r with
  | cons rx rr =>
    cases rr with
    | cons rt rr =>
      cases rr
      cases rx
      cases rt
      obtain ⟨oe, od, mA, J, hl, hr⟩ := inst_exc I e1 e2
      have cl : (PySem.W.clsIn X.K C).isSome = true := by
        obtain ⟨cd, hc, _⟩ := PySem.W.any_some T.hd
        unfold PySem.W.clsIn at hc ⊢
        rw [hc]; rfl
      exact PySem.W.kia_one (PySem.W.kitx_exc cl T.hg T.hk T.hs T.ha T.hn T.ht T.hm) I.kIn J ek (fun z => nomatch z) fun tk => ⟨.bl b, H, I.kept (t' := tk) fun _ _ z => z, rfl, q⟩
def dIsE (kn : Str → Prop) (b : Str → Bool) (t : DTE) : DTE := fun ρ M Q => t ρ M fun d M1 => ∃ x v, d = .exc x v ∧ kn x ∧ Q (.bl (b x)) M1
theorem de_isE {y : Str} {CY : Addr} {b : Str → Bool} (T : Known X.K kn) (sb : SubsOf X.K kn CY b) (m1 : X.mg "isinstance" = none) (m2 : X.mg y = some (.ref CY)) (he : DE X Y e t) (hg : Gl X "isinstance" := by rfl) (hg2 : Gl X y := by rfl) (hd : (y == ("__debug__" : Str)) = false := by decide)
    (s1 : starEach [e, .Name y p'] X.env = (false, eval e X.env) :: starEach [.Name y p'] X.env := by rfl) (s2 : starEach [.Name y p'] X.env = (false, eval (.Name y p') X.env) :: starEach [] X.env := by rfl)
    (hpl : (backTo pos (starEach [.Name y p'] X.env)).any (·.1) = false := by rfl) : DE X Y (.Call (.Name "isinstance" p) [e, .Name y p'] [] pos) (dIsE kn b t) := by
  have h2 : PE X (.Name y p') (tC (.ref CY)) := pe_glob hg2 m2 rfl hd
  refine PE.weak (pe_callB call_isH hg m1 (by decide +kernel) (pa_cons he (pa_cons h2 pa_nil s2) s1) (by decide) (by decide) s1 hpl) ?_
  rintro σ H Q0 ⟨F, M, ρ, Q, rs, rl, q, k⟩
  refine ⟨F, M, ρ, _, rs, rl, q, fun v d F1 M1 H1 s1 rp ⟨x, w, ed, kx, q1⟩ => ?_⟩
  subst ed
  cases rp with
  | exc en e1 e2 rw_ =>
    obtain ⟨k1, k2, k3⟩ := T.of _ _ kx en
    exact ⟨_, _, _, CY, _, b x, rfl, s1.rel.sub _ _ e1, s1.rel.sub _ _ e2, k2, sb x _ kx en, k _ _ F1 M1 H1 s1 (.bl _) q1⟩
end
end DL

set_option maxHeartbeats 4000000
/-! DX6: the end of a law whose defs make lambdas. -/
namespace DL
open PySem PySem.Spec L2 LamX
open PyProof.Rows hiding St

/-- an empty table of code objects -/
abbrev tab0 : Obj := { cls := .none, data := .fields #[] }
abbrev listO (vs : List Value) : Obj := { cls := .type "list", data := .seq vs.toArray }
/-- the law's call over the heap behind the top, with tables at ts -/
theorem glaw_callT {CXa : CXT} {P : Program} {w : World} {K : PySem.W.Frag} {mg mb : Str → Option Value} {k : Nat} {fa a : Addr} {fd : FuncData} {x : Str} {sp : Sp} {s0 : Shared} {vs : List Value} {ns : List Int} {cs : List (Addr × Addr)}
    (KX : K.In s0.heap) (hns : s0.heap.Ns mainGlobals mg) (hb : s0.heap.Ns builtinsNs mb) (hbb : ∀ x : Str, x ≠ "__name__" → mb x = bootBuiltins x) (hlim : s0.heap.NoLimit) (hg : s0.gens = #[])
    (tz : ∀ c ∈ cs, s0.heap.get? c.2 = some tab0) (tn : ∀ c ∈ cs, K.lookup c.2 = none) (hd : ∀ c ∈ cs, PySem.W.CodeHd s0.heap c.1 c.2)
    (bmn : ∃ (bm : Addr) (ob : Obj), mg "__builtins__" = some (.ref bm) ∧ bm ≠ builtinsNs ∧ s0.heap.get? bm = some ob ∧ ob.cls = .type "module" ∧ ob.dict = some builtinsNs ∧ ob.data = .plain)
    (ha : s0.heap.get? a = some (listO vs)) (hi : IntsAre vs ns) (hl : ns.length ≤ sizeLine) (room : Room k callerA)
    (G : ∀ base : Heap, K.In base → base.Ns mainGlobals mg → (∀ c ∈ cs, TabB base mg c.1 c.2) → GnOk P w K mg base CXa k fa fd [x] sp) (nothing : ∀ outer H s e s', ¬ CXa outer H s (fun _ _ _ => False) e s') (bind1 : ∀ (s : Shared) (u : Value), BindsTo s fd ⟨[u], []⟩ [(x, u)])
    (due : ∀ H : Hp, (∀ c ∈ cs, H c.2 = some (.tbl #[])) → SqL K H a (ns.map V.int) → sp [.ref a] H (fun v _ => v = .bl true) fun _ _ _ => False) :
    codeAny (model P w) callerA (.call (.ref fa) ⟨[.ref a], []⟩) (fun r s' => r = .ok (.ret (.bool true)) ∧ OldK s0.heap s'.heap ∧ s'.os = s0.os ∧ AllBare s'.gens) s0 := by
  have rv := vals_ints hi
  have many := hi.length
  let ts : List Addr := cs.map Prod.snd
  have inT : ∀ {c}, c ∈ cs → c.2 ∈ ts := fun h => List.mem_map.mpr ⟨_, h, rfl⟩
  have atT : ∀ {b}, b ∈ ts → s0.heap.get? b = some tab0 := by
    intro b h
    obtain ⟨c, h1, rfl⟩ := List.mem_map.mp h
    exact tz c h1
  have aT : a ∉ ts := by
    intro h
    have z := (atT h).symm.trans ha
    cases congrArg Obj.data (Option.some.inj z)
  have main : ∀ H : Hp, (∀ b ∈ ts, H b = some (.tbl #[])) → (∀ b, b ∉ ts → H b = none ∨ ∃ o xs, H b = some (.frz o (.lst xs))) → SqL K H a (ns.map V.int) → HOk P w H s0.heap → (∀ b, H b ≠ none → b = a ∨ b ∈ ts) → (H a ≠ none → K.lookup a = none) →
      codeAny (model P w) callerA (.call (.ref fa) ⟨[.ref a], []⟩) (fun r s' => r = .ok (.ret (.bool true)) ∧ OldK s0.heap s'.heap ∧ s'.os = s0.os ∧ AllBare s'.gens) s0 := by
    intro H hT only hS ok hA hK
    have two : ∀ {b : Addr} {z : HO}, H b = some z → b = a ∨ b ∈ ts := fun {b z} q => hA b (by rw [q]; exact fun y => by cases y)
    -- what is neither a list nor an empty table is not told
    have off : ∀ {b : Addr} {o : Obj}, s0.heap.get? b = some o → (∀ vs n, o.data ≠ .seq vs n) → o.data ≠ .fields #[] → H b = none := by
      intro b o e n1 n2
      cases q : H b with
      | none => rfl
      | some u =>
        rcases two q with rfl | h
        · rw [ha] at e; cases e; exact (n1 _ _ rfl).elim
        · rw [atT h] at e; cases e; exact (n2 rfl).elim
    have plain : ∀ {b : Addr} {o : Obj} {es : Array DictEntry} {ep : Nat}, s0.heap.get? b = some o → o.data = .dict es ep → H b = none := by
      intro b o es ep e d
      exact off e (fun _ _ z => by rw [d] at z; cases z) (fun z => by rw [d] at z; cases z)
    have ns' : ∀ {b : Addr} {m : Str → Option Value}, s0.heap.Ns b m → (hidT s0.heap H).Ns b m := by
      rintro b m ⟨o, es, ep, e, d, r⟩
      exact ⟨o, es, ep, hidT_get e (plain e d), d, r⟩
    have Kb : K.In (hidT s0.heap H) := by
      intro b o e
      refine hidT_get (KX b o e) ?_
      cases q : H b with
      | none => rfl
      | some u =>
        rcases two q with rfl | h
        · rw [hK (by rw [q]; exact fun y => by cases y)] at e; cases e
        · obtain ⟨c, h1, rfl⟩ := List.mem_map.mp h
          rw [tn c h1] at e; cases e
    have TB : ∀ c ∈ cs, TabB (hidT s0.heap H) mg c.1 c.2 := by
      intro c hc
      obtain ⟨og, eg, pg, e0, dg, _⟩ := hns
      have dg' : ∀ {b}, s0.heap.get? b = some og → b ∉ ts := fun {b} e h => by rw [atT h] at e; cases e; cases dg
      refine ⟨?_, ?_, fun z => dg' e0 (z ▸ inT hc)⟩
      · obtain ⟨o, us, file, tf, flags, tg, inF, text, tt, e1, r1, r2, r3, rest⟩ := hd c hc
        refine ⟨o, us, file, tf, flags, tg, inF, text, tt, hidT_get e1 (off e1 (fun _ _ z => by rw [r2] at z; cases z) fun z => ?_), r1, r2, r3, rest⟩
        rw [r2] at z
        cases z
        simp at r3
      · obtain ⟨bm, ob, m1, m2, m3, m4, m5, m6⟩ := bmn
        have nG : bm ≠ mainGlobals := by
          rintro rfl
          rw [e0] at m3; cases m3
          rw [dg] at m6; cases m6
        have nP : bm ≠ c.2 := by
          rintro rfl
          rw [tz c hc] at m3; cases m3
          cases m6
        exact ⟨bm, ob, m1, m2, nG, nP, hidT_get m3 (off m3 (fun _ _ z => by rw [m6] at z; cases z) fun z => by rw [m6] at z; cases z), m4, m5, m6⟩
    have e0 : Env0 P w K mg (hidT s0.heap H) callerA [] s0 H := by
      refine ⟨rfl, ⟨Kb, ns' hns, ⟨mb, ns' hb, hbb⟩, ?_⟩, fun b o e => of_hidT e, Nat.le_of_eq (hidT_size _ _), trivial, ?_, ok, .of_eq hg⟩
      · obtain ⟨mc, h1, h2⟩ := hlim
        exact ⟨mc, ns' h1, h2⟩
      · intro b hb
        exact absurd (show b ∈ ([] : List Addr) from hb) (by simp)
    refine codeAny_mono ((G _ Kb (ns' hns) TB).go (args := ⟨[.ref a], []⟩) (us := [.ref a]) (vs := [V.ref a]) room rfl e0 (bind1 s0 (.ref a)) (.cons rfl .nil) (due H (fun c hc => hT _ (inT hc)) hS)) ?_
    intro r s' z
    match r, z with
    | .error _, z => exact absurd z (nothing _ _ _ _ _)
    | .ok .next, z => exact z.elim
    | .ok .brk, z => exact z.elim
    | .ok .cont, z => exact z.elim
    | .ok (.ret u), ⟨v, H', os, bare, un, ok', r', q⟩ =>
      obtain rfl : v = .bl true := q
      obtain rfl : u = Value.bool true := r'
      have stays : ∀ b o, b ∉ ts → s0.heap.get? b = some o → s'.heap.get? b = some o := by
        intro b o nb e
        cases q : H b with
        | none => exact un.keep b o e q (fun z => absurd (show b ∈ ([] : List Addr) from z) (by simp)) (by simp)
        | some u =>
          rcases only b nb with z | ⟨ob, xs, z⟩
          · rw [q] at z
            cases z
          · have e1 := (ok b _ z).1
            have e2 := (ok' b _ (un.frzs b ob _ z)).1
            rw [e] at e1
            cases e1
            exact e2
      have grows : ∀ b ∈ ts, ∃ more : Array Value, s'.heap.get? b = some { cls := .none, data := .fields more } := by
        intro b h
        obtain ⟨more, z⟩ := un.tbls b #[] (hT b h)
        exact ⟨_, ok' b _ z⟩
      refine ⟨rfl, ⟨fun b o e => ?_, fun b o e => ?_⟩, os, bare⟩
      · by_cases h : b ∈ ts
        · obtain ⟨more, m⟩ := grows b h
          obtain ⟨c, h1, rfl⟩ := List.mem_map.mp h
          rw [tz c h1] at e
          cases e
          exact .inr (.inl ⟨((hd c h1).tab (tz c h1)).isCodeTable, rfl, #[], more, rfl, by rw [Array.empty_append]; exact m⟩)
        · exact .inl (stays b o h e)
      · by_cases h : b ∈ ts
        · obtain ⟨more, m⟩ := grows b h
          exact ⟨_, m⟩
        · exact ⟨o, stays b o h e⟩
  cases hk : K.lookup a with
  | some o =>
    have e := KX a o hk
    rw [ha] at e
    cases e
    refine main (fun b => if b ∈ ts then some (.tbl #[]) else none) (fun b h => if_pos h) (fun b h => .inl (if_neg h)) (.inr ⟨_, vs.toArray, _, hk, rfl, rfl, rfl, by rw [List.size_toArray, many]; exact hl, by simpa using rv⟩) ?_ ?_ fun z => absurd (if_neg aT) z
    · intro b u z
      by_cases h : b ∈ ts
      · have z' := (if_pos h).symm.trans z
        cases z'
        exact atT h
      · have z' := (if_neg h).symm.trans z
        cases z'
    · intro b z
      by_cases h : b ∈ ts
      · exact .inr h
      · exact absurd (if_neg h) z
  | none =>
    have at1 : (if a = a then some (HO.frz (listO vs) (.lst (ns.map V.int))) else if a ∈ ts then some (.tbl #[]) else none) = some (.frz (listO vs) (.lst (ns.map V.int))) := if_pos rfl
    refine main (fun b => if b = a then some (.frz (listO vs) (.lst (ns.map V.int))) else if b ∈ ts then some (.tbl #[]) else none) ?_ ?_ (.inl (.inr ⟨_, at1⟩)) ?_ ?_ fun _ => hk
    · intro b h
      have ne : b ≠ a := fun z => aT (z ▸ h)
      exact (if_neg ne).trans (if_pos h)
    · intro b h
      by_cases e : b = a
      · exact .inr ⟨_, _, if_pos e⟩
      · exact .inl ((if_neg e).trans (if_neg h))
    · intro b u z
      by_cases e : b = a
      · have z' := (if_pos e).symm.trans z
        cases z'
        subst e
        exact ⟨ha, by rw [List.length_map]; exact hl, vs, _, rv, ha⟩
      · have z1 := (if_neg e).symm.trans z
        by_cases h : b ∈ ts
        · have z' := (if_pos h).symm.trans z1
          cases z'
          exact atT h
        · have z' := (if_neg h).symm.trans z1
          cases z'
    · intro b z
      by_cases e : b = a
      · exact .inl e
      · by_cases h : b ∈ ts
        · exact .inr h
        · exact absurd ((if_neg e).trans (if_neg h)) z
/-- the defs that make lambdas: each with its code object and its table -/
def TabsOf (q : Program) (K : PySem.W.Frag) (cs : List (Str × Addr × Addr)) : Prop := ∀ c ∈ cs, ((recsOf q).find? fun e => e.name == c.1).isSome = true ∧ PySem.W.tabIn K c.1 = some c.2 ∧ K.lookup c.2.2 = none
theorem gwalkT {l : PySem.W.OpenLaw} {n k : Nat} {q : Program} {loose : List Str} {XP : (Str → Option Value) → Heap → Prop} {YP : World → Heap → Prop} {d : DefRec} {K : Params → PySem.W.Frag} {x : Str}
    (most : l.most = some n) (le : n ≤ sizeLine) (dfl : d.params.defaults = []) (room : Room k callerA) (inY : ∀ (w : World) (h : Heap), YP w h → (K w.params).In h)
    (G : ∀ (w : World) (mg : Str → Option Value) (fa : Addr) (h : Heap), (K w.params).In h → h.Ns mainGlobals mg → mg d.name = some (.ref fa) →
      ∃ (cs : List (Str × Addr × Addr)) (sp : Sp) (fd : FuncData), TabsOf q (K w.params) cs ∧ (∀ (s : Shared) (u : Value), BindsTo s fd ⟨[u], []⟩ [(x, u)]) ∧
        (∀ (H : Hp) (a : Addr) (ns : List Int), ns.length ≤ n → (∀ c ∈ cs, H c.2.2 = some (.tbl #[])) → SqL (K w.params) H a (ns.map V.int) → sp [.ref a] H (fun v _ => v = .bl true) fun _ _ _ => False) ∧
        ∀ base : Heap, (K w.params).In base → base.Ns mainGlobals mg → (∀ c ∈ cs, TabB base mg c.2.1 c.2.2) → GnOk l.prog w (K w.params) mg base (L2.CX l.prog w) k fa fd [x] sp) :
    PySem.W.WalkO q loose XP YP l.row.toRowW d [] (fun f vs => PySem.call f vs) := by
  refine Att.attach_call most dfl ?_
  intro w s0 s1 mg mb fa o pm cd doc a vs ns G0 Y ho hd hcd hmg hobj hints hlen hg
  have KX := inY w _ Y
  obtain ⟨cs, sp, fd, tabs, hb, due, hF⟩ := G w mg fa _ KX G0.T.g hmg
  have look : ∀ c ∈ cs.map Prod.snd, ∃ c0 ∈ cs, c = c0.2 ∧ PySem.W.CodeHd s1.heap c.1 c.2 ∧ s1.heap.get? c.2 = some tab0 := by
    intro c hc
    obtain ⟨c0, h0, rfl⟩ := List.mem_map.mp hc
    obtain ⟨f1, f2, f3⟩ := tabs c0 h0
    obtain ⟨dr, hdr⟩ := Option.isSome_iff_exists.mp f1
    obtain ⟨g1, g2⟩ := PySem.W.tab_of G0.T KX hdr f2
    exact ⟨c0, h0, rfl, g1, g2⟩
  refine glaw_callT (cs := cs.map Prod.snd) KX G0.T.g G0.T.b G0.T.builtins G0.T.nolimit hg (fun c hc => ?_) (fun c hc => ?_) (fun c hc => ?_) G0.T.bmain hobj hints (Nat.le_trans hlen le) room (fun base KB NB TB => hF base KB NB fun c hc => TB c.2 (List.mem_map.mpr ⟨c, hc, rfl⟩))
    (fun _ _ _ _ _ ⟨_, _, _, _, _, _, _, _, _, _, _, _, z⟩ => z) hb fun H hT hS => due H a ns hlen (fun c hc => hT c.2 (List.mem_map.mpr ⟨c, hc, rfl⟩)) hS
  · obtain ⟨_, _, _, _, z⟩ := look c hc; exact z
  · obtain ⟨c0, h0, rfl, _⟩ := look c hc; exact (tabs c0 h0).2.2
  · obtain ⟨_, _, _, z, _⟩ := look c hc; exact z
/-- the tables are in order at the law's start -/
theorem tabs0 {H : Hp} {cs : List (Str × Addr × Addr)} (f : Str → Str) (h : ∀ c ∈ cs, H c.2.2 = some (.tbl #[])) : Tabs (cs.map fun c => (c.2.2, f c.1)) H := by
  intro p hp
  obtain ⟨c, hc, rfl⟩ := List.mem_map.mp hp
  exact .nil (h c hc)
end DL

set_option maxHeartbeats 4000000
/-! DL13: enumerate over a text, range with a step, min of three, tuple(..), targets out of a list, a def in a slot. -/
namespace DL
open PySem PySem.Spec L2
open PyProof.Rows hiding St

section
variable {X : Cx} {Y : KJ X.K} {pos p tpos : Pos} {e e2 e3 : Expr} {t u v : DTE} {elts : List Expr} {kk : Nat}
/-! ### enumerate over a text -/
def numD (xs : List DL.D) : List DL.D := (xs.zipIdx).map fun p => .tup [.int (p.2 : Nat), p.1]
def IteS (x : Str) : It := ⟨fun i _ => i < x.cps.size,
  fun i H v H' => ∃ T c, v = .ref T ∧ H T = none ∧ H' = upd H T (.tup [.int (i : Nat), .str ⟨#[c]⟩]) ∧ x.cps[i]? = some c,
  fun i _ => i = x.cps.size⟩
theorem turn_enumS {P : Program} {w : World} {K : PySem.W.Frag} {a it : Addr} {x : Str} {tk : Tok} (ne : a ≠ it) :
    Turn P w K (.Tuple elts kk tpos) (IteS x) [a, it] a (fun i h => (∃ old, IsEnum h a it ((i : Nat) : Int) old) ∧ h.IsStrIter it (strIterType x) x tk i) where
  mem := by simp
  obj := fun i h st c hc => by
    obtain ⟨⟨old, he⟩, o, e1, _, d1⟩ := st
    have e' : c = a ∨ c = it := by simpa using hc
    rcases e' with q | q
    · rw [q]; exact ⟨_, he, fun v q => nomatch q⟩
    · rw [q]; exact ⟨o, e1, fun v q => by rw [d1] at q; cases q⟩
  keep := fun i h h' st kp => by
    obtain ⟨⟨old, he⟩, o, e1, c1⟩ := st
    exact ⟨⟨old, kp a (by simp) _ he⟩, o, kp it (by simp) o e1, c1⟩
  item := by
    intro X hP hw hK hc i pins s σ H E I hf st hg
    subst hP hw hK
    obtain ⟨⟨old, he⟩, hs⟩ := st
    have D1 := Draws.text (prog := X.prog) (w := X.w) (A := X.A.in1) (I.ok.hd hc) it x tk
    have al : a < s.heap.objs.size := Heap.lt_size he
    have il : it < s.heap.objs.size := by obtain ⟨_, z, _⟩ := hs; exact Heap.lt_size z
    refine wpAny_pyNext_enum_itemD D1 he hs hg ne (by simpa using ne) fun y h' tk' py out hs' hT hsz hk => ?_
    obtain ⟨c, u, hx, rfl⟩ := py
    refine ⟨_, rfl, wpAny_letOwnedTupleGo_enum (s := { s with heap := h', toks := tk' + 1 }) out fun h'' he' sb => ?_⟩
    have hT2 : h''.get? s.heap.objs.size = some { cls := .type "tuple", data := .seq #[.int (i : Nat) tk', .str ⟨#[c]⟩ u] } := (sb.2 _ (Nat.ne_of_gt al)).trans hT
    have new : ObjOk X.prog X.w (upd H s.heap.objs.size (.tup [.int (i : Nat), .str ⟨#[c]⟩])) h'' s.heap.objs.size (.tup [.int (i : Nat), .str ⟨#[c]⟩]) :=
      ⟨by show 2 ≤ sizeLine; decide, [.int (i : Nat) tk', .str ⟨#[c]⟩ u], .cons ⟨_, rfl⟩ (.cons ⟨u, rfl⟩ .nil), ⟨_, hT2, rfl, _, rfl⟩⟩
    have I1 : Inv X pins σ (upd H s.heap.objs.size (.tup [.int (i : Nat), .str ⟨#[c]⟩])) { s with heap := h'', toks := tk' + 1 } :=
      I.turnedNew (t' := tk' + 1) (ch := [a, it]) (fun b o hb q => (sb.2 b (fun z => hb (by simp [z]))).trans (hk b o (fun z => hb (by simp [z])) (fun z => hb (by simp [z])) q)) hf (Nat.le_refl _) new
    refine ⟨.ref s.heap.objs.size, _, I1, rfl, ⟨_, c, rfl, I.hok.fresh (Nat.le_refl _), rfl, hx⟩, ⟨⟨.str ⟨#[c]⟩ u, ?_⟩, ?_⟩, fun b hb => ?_⟩
    · have e1 : ((i + 1 : Nat) : Int) = (i : Int) + 1 := by omega
      rw [e1]; exact he'
    · obtain ⟨o, e1, c1⟩ := hs'
      exact ⟨o, (sb.2 _ (fun q => ne q.symm)).trans e1, c1⟩
    · have e' : b = a ∨ b = it := by simpa using hb
      have lt : b < s.heap.objs.size := by rcases e' with q | q <;> rw [q] <;> assumption
      rw [upd_ne (Nat.ne_of_lt lt)]
      exact (hf b hb).1
  done := by
    intro X hP hw hK hc i pins s σ H E I hf st hg
    subst hP hw hK
    obtain ⟨⟨old, he⟩, hs⟩ := st
    obtain ⟨f0, f1, f2, f3, f4, f5⟩ := hf it (by simp)
    have D1 := Draws.text (prog := X.prog) (w := X.w) (A := X.A.in1) (I.ok.hd hc) it x tk
    have hg' : i = x.cps.size := hg
    subst hg'
    exact wpAny_pyNext_enum_endD D1 he hs fun h' eb => ⟨rfl, I.turned (t' := s.toks) (fun b o hb q => eb b o hb q) f0 f1 f3 f4 f5⟩
  self := fun A i s Q E st h => let ⟨⟨_, he⟩, _⟩ := st; wpAny_pyIter_enum he h
def iEnumS (ta : TA) : TI := fun σ H R => ta σ H fun vs H1 => ∃ x, vs = [.str x] ∧ R (IteS x) H1
theorem pi_enumS {ta : TA} (hg : Gl X "enumerate") (hm : X.mg "enumerate" = none) (ha : PA X [e] ta) (hs : starEach [e] X.env = (false, eval e X.env) :: starEach [] X.env) :
    PI X (.Tuple elts kk tpos) (.Call (.Name "enumerate" p) [e] [] pos) (iEnumS ta) := by
  constructor
  intro pins s σ H R I h
  refine Call_ (ld_blt I hg hm boot_enumerate (PyProof.Rows.callWith_type1 (thn (ha.run pos pins s σ H _ I h) ?_) hs rfl))
  rintro us s1 ⟨vs, H1, I1, r1, x, rfl, q⟩
  obtain ⟨u1, rfl, ⟨t1, rfl⟩⟩ := vals1 r1
  refine call_enumerate_str fun h' he hit hsz hk => wpAny_pyIter_enum he ?_
  have I2 : Inv X pins σ H1 { s1 with heap := h' } := I1.kept (t' := s1.toks) hk
  refine ⟨s1.heap.objs.size + 1, [s1.heap.objs.size + 1, s1.heap.objs.size], _, _, H1, rfl, I2, turn_enumS (Nat.succ_ne_self _), ⟨⟨.none, he⟩, hit⟩, fun b hb => ?_, q⟩
  have e' : b = s1.heap.objs.size + 1 ∨ b = s1.heap.objs.size := by simpa using hb
  have le : s1.heap.objs.size ≤ b := by
    rcases e' with z | z
    · rw [z]; exact Nat.le_add_right _ _
    · rw [z]; exact Nat.le_refl _
  exact I1.fpOk le (I1.hok.fresh le)
def dEnumS (t : DTE) : DTI := fun ρ M R => t ρ M fun d M1 => ∃ x, d = .str x ∧ R (numD (signs x)) (fun _ => True) M1
theorem numD_get {xs : List DL.D} {i : Nat} {d : DL.D} (h : (numD xs)[i]? = some d) : ∃ x, xs[i]? = some x ∧ d = .tup [.int (i : Nat), x] := by
  unfold numD at h
  rw [List.getElem?_map, List.getElem?_zipIdx] at h
  cases e : xs[i]? with
  | none => rw [e] at h; cases h
  | some x => rw [e] at h; cases h; exact ⟨x, rfl, by simp⟩
theorem di_enumS (hm : X.mg "enumerate" = none) (he : DE X Y e t) (hg : Gl X "enumerate" := by rfl) (hs : starEach [e] X.env = (false, eval e X.env) :: starEach [] X.env := by rfl) :
    DI X Y (.Tuple elts kk tpos) (.Call (.Name "enumerate" p) [e] [] pos) (dEnumS t) := by
  refine PI.weak (pi_enumS hg hm (pa_cons he pa_nil hs) hs) ?_
  rintro σ H R0 ⟨F, M, ρ, R, rs, rl, q, k⟩
  refine ⟨F, M, ρ, _, rs, rl, q, fun v d F1 M1 H1 s1 rp1 ⟨x, ex, q1⟩ => ?_⟩
  subst ex
  cases rp1
  refine ⟨x, rfl, k _ _ _ F1 M1 H1 s1 ⟨fun F3 M3 H3 s3 r3 g => ?_⟩ q1⟩
  have hl : (numD (signs x)).length = x.cps.size := by unfold numD signs; simp
  refine ⟨hl, fun i dd hi => ?_⟩
  have hlt : i < x.cps.size := by rw [← hl]; exact (List.getElem?_eq_some_iff.mp hi).1
  obtain ⟨a, ha, rfl⟩ := numD_get hi
  refine ⟨hlt, fun vv H4 yy => ?_⟩
  obtain ⟨T, c, rfl, hT, eH, hx⟩ := yy
  unfold signs at ha
  rw [List.getElem?_map, Array.getElem?_toList, hx] at ha
  cases ha
  exact jw_pair s3 r3 (.int _) (.str _) hT eH

/-! ### range(i, j, -1) -/
def dnD (i : Int) (n : Nat) : List DL.D := (List.range n).map fun k => .int (i + (k : Nat) * (-1))
def dRangeDn (t u v : DTE) : DTI := fun ρ M R => t ρ M fun d M1 => u ρ M1 fun d' M2 => v ρ M2 fun d'' M3 => ∃ i j, d = .int i ∧ d' = .int j ∧ d'' = .int (-1) ∧ (-(2 ^ 62) ≤ i ∧ i < 2 ^ 62 ∧ -(2 ^ 62) ≤ j ∧ j < 2 ^ 62) ∧ R (dnD i (i - j).toNat) (fun _ => True) M3
theorem jw_down {K : PySem.W.Frag} {Y : KJ K} {F : Hp} {lo : Int} {n : Nat} : JW Y F (Itc lo (-1) n) (dnD lo n) (fun _ => True) := by
  refine ⟨fun F1 M1 H1 s r g => ⟨by show n ≤ (dnD lo n).length; simp [dnD], fun i d hi => ?_⟩⟩
  unfold dnD at hi
  rw [List.getElem?_map] at hi
  by_cases h : i < n
  · rw [List.getElem?_range h] at hi
    cases hi
    refine ⟨h, fun v H2 ⟨e2, hv⟩ => ?_⟩
    subst e2 hv
    exact ⟨F1, Stp.refl r, .int _⟩
  · rw [List.getElem?_eq_none (by simpa using h)] at hi
    cases hi
theorem di_rangeDn {tg : Expr} (hm : X.mg "range" = none) (he : DE X Y e t) (he2 : DE X Y e2 u) (he3 : DE X Y e3 v) (hg : Gl X "range" := by rfl) (hs : starEach [e, e2, e3] X.env = (false, eval e X.env) :: starEach [e2, e3] X.env := by rfl)
    (hs2 : starEach [e2, e3] X.env = (false, eval e2 X.env) :: starEach [e3] X.env := by rfl) (hs3 : starEach [e3] X.env = (false, eval e3 X.env) :: starEach [] X.env := by rfl) (hpl : (backTo pos (starEach [e2, e3] X.env)).any (·.1) = false := by rfl) :
    DI X Y tg (.Call (.Name "range" p) [e, e2, e3] [] pos) (dRangeDn t u v) := by
  refine PI.weak (pi_range3 hg hm (pa_cons he (pa_cons he2 (pa_cons he3 pa_nil hs3) hs2) hs) hs hpl) ?_
  rintro σ H R0 ⟨F, M, ρ, R, rs, rl, q, k⟩
  refine ⟨F, M, ρ, _, rs, rl, q, fun v1 d1 F1 M1 H1 s1 rp1 q1 => ?_⟩
  refine ⟨F1, M1, ρ, _, rs.mono s1.same, s1.rel, q1, fun v2 d2 F2 M2 H2 s2 rp2 q2 => ?_⟩
  refine ⟨F2, M2, ρ, _, rs.mono (s1.same.trans s2.same), s2.rel, q2, fun v3 d3 F3 M3 H3 s3 rp3 ⟨i, j, e1, e2, e3, ⟨b1, b2, b3, b4⟩, q3⟩ => ?_⟩
  subst e1 e2 e3
  cases rp1
  cases rp2
  cases rp3
  exact ⟨i, j, -1, _, rfl, RgC.neg b1 b2 b3 b4, k _ _ _ F3 M3 H3 ((s1.trans s2).trans s3) jw_down q3⟩

/-! ### min of three -/
def rMin3D : RDL := fun ds M Q => ∃ i j k, ds = [.int i, .int j, .int k] ∧ Q (.int (let m := if j < i then j else i; if k < m then k else m)) M
theorem rp3 {K : PySem.W.Frag} {F : Hp} {vs : List V} {a b c : DL.D} (r : RpAll K F vs [a, b, c]) : ∃ x y z, vs = [x, y, z] ∧ Rp K F x a ∧ Rp K F y b ∧ Rp K F z c := by
  cases r with
  | cons r1 r =>
    obtain ⟨y, z, rfl, r2, r3⟩ := rp2 r
    exact ⟨_, y, z, rfl, r1, r2, r3⟩
theorem cd_min3 (hc : X.calm = true) : CallD X Y (.builtin "min") rMin3D := by
  intro pins s σ H vs us Q0 I r ⟨F, M, ds, Q, rp, rl, ⟨i, j, k', e, q⟩, k⟩
  subst e
  obtain ⟨v1, v2, v3, rfl, r1, r2, r3⟩ := rp3 rp
  cases r1
  cases r2
  cases r3
  refine call_min3Nu hc pins s σ H _ us Q0 I r ⟨_, _, _, _, rfl, ?_, k _ _ F M H (Stp.refl rl) (.int _) q⟩
  have e1 : nuLt (V.int j) (V.int i) = some (decide (j < i)) := rfl
  by_cases h : j < i
  · have e2 : nuLt (V.int k') (V.int j) = some (decide (k' < j)) := rfl
    by_cases h2 : k' < j <;> simp [nuMin3, nuMin2, e1, e2, h, h2]
  · have e2 : nuLt (V.int k') (V.int i) = some (decide (k' < i)) := rfl
    by_cases h2 : k' < i <;> simp [nuMin3, nuMin2, e1, e2, h, h2]

/-! ### tuple(a text), tuple(a list) -/
theorem extend_signs {prog : Program} {w : World} {A : Around} {E : Value → Shared → Prop} {s : Shared} {x : Str} {tk : Tok} {Q : List Value → Shared → Prop} (calm : A.handled = none) (small : x.cps.size ≤ sizeLine)
    (k : ∀ (h' : Heap) (n : Nat) (acc : Array Value), (∀ b o, s.heap.get? b = some o → h'.get? b = some o) → ItemsOf (SignAt x) acc x.cps.size → Q acc.toList { s with heap := h', toks := n }) :
    wpAny (model prog w) A (collect (.str x tk)) Q E s := by
  have at0 : (s.heap.push { cls := .type "list", data := .seq ([] : List Value).toArray }).get? s.heap.objs.size = some { cls := .type "list", data := .seq #[] 0 } := Heap.get?_push_size _ rfl
  have old : ∀ b o, s.heap.get? b = some o → b ≠ s.heap.objs.size := fun b o q => Nat.ne_of_lt (Heap.lt_size q)
  unfold collect
  apply wpAny_bind
  apply wpAny_runValue
  refine codeAny_builtin F.entry_proto_collect ?_
  rw [Around.under_plainId F.plain_proto_collect _]
  show wpAny _ A.in1 (newList [] >>= fun l => again (.builtin "list.__iadd__" ⟨[l, .str x tk], []⟩)) _ _ s
  apply wpAny_bind
  refine wpAny_newObj_type ?_
  refine wpAny_pure ⟨plainId_quiet F.plain_list_iadd _, codeAny_builtin F.entry_list_iadd ?_⟩
  rw [Around.under_plainId F.plain_list_iadd _]
  show wpAny _ A.in1 (Builtin.List.listExtendWith (.ref s.heap.objs.size) (.str x tk) (.ref s.heap.objs.size)) _ _ _
  let R : Result → Shared → Prop := fun rr s' => rr = .ok (.ret (.ref s.heap.objs.size)) ∧ ∃ (h' : Heap) (n : Nat) (acc : Array Value) (c : Nat), s' = { s with heap := h', toks := n } ∧
      (∀ b o, s.heap.get? b = some o → h'.get? b = some o) ∧ h'.get? s.heap.objs.size = some { cls := .type "list", dict := none, data := .seq acc c, slots := #[] } ∧ ItemsOf (SignAt x) acc x.cps.size
  have ends : ∀ (rr : Result) (s' : Shared), R rr s' → ∃ acc : Array Value, rr = .ok (.ret (.ref s.heap.objs.size)) ∧ wpAny (model prog w) A (load s.heap.objs.size >>= fun o => pure o) (fun o s'' => ∃ c, o = { cls := .type "list", dict := none, data := .seq acc c, slots := #[] } ∧ Q acc.toList s'') E s' := by
    rintro rr s' ⟨rfl, h', n, acc, c, rfl, kp, a1, it⟩
    exact ⟨acc, rfl, wpAny_bind (wpAny_load a1 (wpAny_pure ⟨c, rfl, k h' n acc kp it⟩))⟩
  refine wpAny_mono (wpAny_extend_str (A := A) (R := R) (s := { s with heap := s.heap.push { cls := .type "list", data := .seq ([] : List Value).toArray } }) (hn := small) calm x tk _ _ 0 at0
    (fun h' n acc c kp a1 it => ⟨rfl, h', n, acc, c, rfl, fun b o q => kp b o (old b o q) (Heap.get?_push_of_some _ q), a1, it⟩)) ?_ ?_
  · intro fin s' h
    match fin, h with
    | .done f, ⟨e, h', n, acc, c, e2, kp, a1, it⟩ =>
      cases e
      subst e2
      show wpAny _ A (load s.heap.objs.size >>= _) _ _ _
      exact wpAny_bind (wpAny_load a1 (wpAny_pure (k h' n acc kp it)))
    | .again c', h =>
      refine ⟨h.1, codeAny_mono h.2 ?_⟩
      rintro rr s'' ⟨rfl, h', n, acc, c, rfl, kp, a1, it⟩
      show wpAny _ A (load s.heap.objs.size >>= _) _ _ _
      exact wpAny_bind (wpAny_load a1 (wpAny_pure (k h' n acc kp it)))
  · intro e s' h
    exact absurd h.1 (by simp)
end
end DL

set_option maxHeartbeats 4000000
/-! DL14: tuple(..), targets out of a list, a def in a slot, promises without exceptions. -/
namespace DL
open PySem PySem.Spec L2
open PyProof.Rows hiding St

section
variable {prog : Program} {w : World} {A : Around} {E : Value → Shared → Prop} {s : Shared}
theorem tuple_signs {x : Str} {tk : Tok} {Q : Value → Shared → Prop} (calm : A.handled = none) (small : x.cps.size ≤ sizeLine)
    (k : ∀ (h' : Heap) (n : Nat) (acc : Array Value), (∀ b o, s.heap.get? b = some o → h'.get? b = some o) → ItemsOf (SignAt x) acc x.cps.size → Q (.ref h'.objs.size) { s with heap := h'.push { cls := .type "tuple", data := .seq acc }, toks := n }) :
    wpAny (model prog w) A (call (.type "tuple") [.str x tk]) Q E s := by
  have code : codeAny (model prog w) A.in1 (.call (.builtin "tuple.__new__") ⟨[.type "tuple", .str x tk], []⟩) (wants (fun obj s1 => s1.TypeIs obj "tuple" ∧ Q obj s1) E) s := by
    apply codeAny_of_tree
    show wpAny _ A.in1.in1 (do checkBuiltinCall "tuple.__new__" ⟨[.type "tuple", .str x tk], []⟩; again (.builtin "tuple.__new__" ⟨[.type "tuple", .str x tk], []⟩)) _ _ s
    refine wpAny_bind (wpAny_of_eq (F.newCall_tuple_1 _) (wpAny_pure ⟨plainId_quiet F.plain_tuple_new _, codeAny_builtin F.entry_tuple_new ?_⟩))
    rw [Around.under_plainId F.plain_tuple_new _]
    have f1 := sub_tuple_self
    have f2 := init_tuple_lookup
    have f3 := madeHere_tuple
    have ty : s.TypeIs (.str x tk) "str" := rfl
    have cl : A.in1.in1.handled = none := calm
    wp_walk using wpAny_typeOf ty, extend_signs (A := A.in1.in1) (x := x) (tk := tk) cl small
    intro h' n acc kp it
    show wpAny _ _ (Builtin.Tuple.tupleExact acc.toList.toArray >>= fun v => ret v) _ _ _
    unfold Builtin.Tuple.tupleExact
    have e : acc.toList.toArray = acc := by simp
    rw [e]
    refine wpAny_bind (wpAny_newObj_type ?_ (by show acc.size ≤ sizeLine; rw [it.1]; exact small))
    exact wpAny_pure ⟨⟨_, Heap.get?_push_size _ rfl, rfl⟩, k h' n acc kp it⟩
  refine callType_codes (Q₁ := fun obj s1 => s1.TypeIs obj "tuple" ∧ Q obj s1) F.called_tuple (F.typeCall_tuple_1 _) F.entry_object_init code ?_
  intro obj s1 h1
  exact ⟨h1.1, F.args_object_init_2 obj _, object_init_meets F.called_tuple.init.lookup F.called_tuple.made (by decide) prog w A.in1 _ s1 ⟨h1.1, rfl, h1.2⟩⟩
end
section
variable {X : Cx} {Y : KJ X.K} {pos p : Pos}
def rTupD : RDL
  | [.str x], M, Q => x.cps.size ≤ sizeLine ∧ Q (.tup (signs x)) M
  | [.tup xs], M, Q => Q (.tup xs) M
  | [d], M, Q => ∃ xs, lstOf M d = some xs ∧ Q (.tup xs) M
  | _, _, _ => False
theorem cd_tup (hc : X.calm = true) : CallD X Y (.type "tuple") rTupD := by
  intro pins s σ H vs us Q0 I r ⟨F, M, ds, Q, rp, rl, q, k⟩
  unfold rTupD at q
  split at q
  · rename_i x
    obtain ⟨v, rfl, r1⟩ := rp1 rp
    obtain ⟨small, q⟩ := q
    cases r1
    obtain ⟨u, rfl, ⟨t, rfl⟩⟩ := vals1 r
    refine tuple_signs (I.ok.hd hc) small fun h' n acc kp it => ?_
    have vals : Vals (x.cps.toList.map fun c => V.str ⟨#[c]⟩) acc.toList := by
      refine vals_of_at (by simp [it.1]) fun i v w hv hw => ?_
      rw [Array.getElem?_toList] at hw
      obtain ⟨c, t, hc, rfl⟩ := it.2 i w hw
      rw [List.getElem?_map, Array.getElem?_toList, hc] at hv
      cases hv
      exact ⟨t, rfl⟩
    have I2 : Inv X pins σ H { s with heap := h', toks := n } := I.kept kp
    refine ⟨.ref _, upd H h'.objs.size (.tup (x.cps.toList.map fun c => V.str ⟨#[c]⟩)), I2.laid (t' := n) (fun b o q => Heap.get?_push_of_some _ q) (Nat.le_refl _) ⟨?_, acc.toList, vals, ?_⟩, rfl, newT_ok rl (signs_rp x) q k _ (I2.hok.fresh (Nat.le_refl _))⟩
    · rw [List.length_map, Array.length_toList]; exact small
    · exact ⟨_, Heap.get?_push_size _ rfl, rfl, _, by rw [Array.toArray_toList]⟩
  · obtain ⟨v, rfl, r1⟩ := rp1 rp
    cases r1 with
    | tup sq ra => exact call_tuple_of pins s σ H _ us Q0 I r ⟨_, _, rfl, .inr ⟨Same.tseq rl.sub sq, k _ _ F M H (Stp.refl rl) (.tup sq ra) q⟩⟩
  · obtain ⟨v, rfl, r1⟩ := rp1 rp
    obtain ⟨xs, e1, q⟩ := q
    obtain ⟨a, ws, rfl, h1, ra⟩ := lstOf_rp rl r1 e1
    exact call_tuple_of pins s σ H _ us Q0 I r ⟨a, ws, rfl, .inl ⟨h1, fun l hl => newT_ok rl ra q k l hl⟩⟩
  · exact q.elim
/-! ### targets out of a list -/
def dgLst (n : Nat) (t : DTGs) : DTG := fun d ρ M Q => ∃ ds, lstOf M d = some ds ∧ ds.length = n ∧ t ds ρ M Q
theorem dg_lst {es : List Expr} {k : Nat} {t : DTGs} {n : Nat} {ws : List Nat} (hc : X.calm = true) (h : DGs X Y es t ws)
    (hn : (assignEach es X.env).length = n := by rfl) (hst : (assignEach es X.env).findIdx? (·.1) = none := by rfl) : DG X Y (.Tuple es k pos) (dgLst n t) ws := by
  refine PG.weak (pg_lst hc h hn hst) ?_
  rintro v σ H Q0 ⟨F, M, ρ, d, Q, rp, rs, r, ⟨ds, e, hl, q⟩, k⟩
  obtain ⟨a, vs, rfl, h1, ra⟩ := lstOf_rp r rp e
  exact ⟨_, _, rfl, h1, by rw [ra.length]; exact hl, F, M, ρ, ds, Q, ra, rs, r, q, k⟩
/-! ### a def in a slot -/
/-- the def at f, by its promise over data -/
def CalA (P : Program) (w : World) (K : PySem.W.Frag) (T : TT8) (mg : Str → Option Value) (base : Heap) (k : Nat) (f : Addr) (sp : DSp) : Prop :=
  ∃ (fd : FuncData) (ps : List Str), GnOk P w K mg base (L2.CX P w) k f fd ps (lift K T sp) ∧ PySem.W.keepIn K (.ref f) = true ∧ Binds K fd ps []
theorem Cal.at {P : Program} {w : World} {K : PySem.W.Frag} {T : TT8} {mg : Str → Option Value} {base : Heap} {k : Nat} {x : Str} {sp : DSp} (C : Cal P w K T mg base k x [] sp) : ∃ f, CalA P w K T mg base k f sp ∧ Glob K mg x (.ref f) := by
  obtain ⟨f, fd, ps, dvs, us, G, m, kp, b, vd, rd⟩ := C.ex
  have := rd (fun _ => Option.none)
  cases this
  cases vd
  exact ⟨f, ⟨fd, ps, G, kp, b⟩, .ref f, .ref f, m, rfl, fun F => .ref f⟩
theorem CalA.mono {P : Program} {w : World} {K : PySem.W.Frag} {T : TT8} {mg : Str → Option Value} {base : Heap} {j k : Nat} {f : Addr} {sp : DSp} (C : CalA P w K T mg base j f sp) (h : j ≤ k) : CalA P w K T mg base k f sp := by
  obtain ⟨fd, ps, G, r⟩ := C
  exact ⟨fd, ps, G.up h, r⟩
def dCallV (i : Nat) (S : Addr → DSp → Prop) (t : DTA) (E : DXK) : DTE := fun ρ M Q => ∃ f sp, ρ[i]? = some (some (.ref f)) ∧ S f sp ∧ t ρ M fun ds M1 => sp ds M1 Q E
theorem de_callV {i k : Nat} {x : Str} {S : Addr → DSp → Prop} {e : Expr} {args : List Expr} {t : DTA} {E : DXK} (A : ∀ f sp, S f sp → CalA X.prog X.w X.K Y.T X.mg X.base k f sp) (hr : Room k X.A) (gu : X.A.guards = some []) (g : XG X Y E) (ha : DA X Y (e :: args) t)
    (hN : X.N[i]? = some x := by rfl) (hv : Vis X.env.scope x := by first | exact Or.inl rfl | exact Or.inr (Or.inl rfl) | exact Or.inr (Or.inr rfl)) (hd : (x == ("__debug__" : Str)) = false := by decide) (hcd : (x == ("__classdict__" : Str)) = false := by decide)
    (he : starEach (e :: args) X.env = (false, eval e X.env) :: starEach args X.env := by rfl) (hpl : (backTo pos (starEach args X.env)).any (·.1) = false := by rfl) :
    DE X Y (.Call (.Name x p) (e :: args) [] pos) (dCallV i S t E) := by
  constructor
  rintro pins s σ H Q0 I ⟨F, M, ρ, Q, rs, rl, ⟨f, sp, er, hS, q⟩, k⟩
  obtain ⟨fd, ps, G, kp, bi⟩ := A f sp hS
  obtain ⟨v, ev, rv⟩ := rs.2 i _ er
  cases rv
  apply wpAny_Call_Name_kw
  refine thn ((pe_var (pos := p) hN hv hd hcd).run pins s σ H (fun v G => v = .ref f ∧ G = H) I ⟨.ref f, ev, rfl, rfl⟩) ?_
  rintro u s1 ⟨w0, G0, I1, rel, e1, e2⟩
  subst e1
  rw [e2] at I1
  obtain rfl : u = Value.ref f := rel
  refine PySem.W.callWith_K (h₀ := X.base) I1.ok.mod.kin kp (thn (ha.run pos pins s1 σ H (fun vs H1 => lift X.K Y.T sp vs H1 Q0 (xw Y E)) I1 ⟨F, M, ρ, _, rs, rl, q, ?_⟩) ?_) he hpl
  · intro vs ds F1 M1 H1 s1 rp q1
    exact ⟨ds, F1, M1, Q, E, rp, s1.rel.r, g.tabs _ _ _ s1.rel.j, q1, fun v d F2 M2 H2 s2 => k v d F2 M2 H2 (s1.trans (Stp.of s1.rel s2)), fun x v cls d F2 M2 H2 s2 e z => ⟨F2, M2, x, v, (Stp.of s1.rel s2).rel, e, z⟩⟩
  · rintro us s2 ⟨vs, H2, I2, r, q2⟩
    refine ⟨I2.kIn, run_gn G hr gu bi .nil g.out I2 r ?_⟩
    rw [List.append_nil]
    exact q2
/-! ### promises without exceptions -/
abbrev DS1 := List DL.D → Mp → DK → Prop
abbrev quiet (sp : DS1) : DSp := fun ds M Q _ => sp ds M Q
abbrev Cal1 (P : Program) (w : World) (K : PySem.W.Frag) (T : TT8) (mg : Str → Option Value) (base : Heap) (k : Nat) (x : Str) (sp : DS1) : Prop := Cal P w K T mg base k x [] (quiet sp)
def dCall1 (sp : DS1) (t : DTA) : DTE := fun ρ M Q => t ρ M fun ds M1 => sp ds M1 Q
theorem de_call1 {k : Nat} {x : Str} {sp : DS1} {e : Expr} {args : List Expr} {t : DTA} (C : Cal1 X.prog X.w X.K Y.T X.mg X.base k x sp) (hr : Room k X.A) (gu : X.A.guards = some []) (g : XT Y) (ha : DA X Y (e :: args) t) (hg : Gl X x := by rfl)
    (hd : (x == ("__debug__" : Str)) = false := by decide) (he : starEach (e :: args) X.env = (false, eval e X.env) :: starEach args X.env := by rfl) (hpl : (backTo pos (starEach args X.env)).any (·.1) = false := by rfl) :
    DE X Y (.Call (.Name x p) (e :: args) [] pos) (dCall1 sp t) := by
  refine PE.weak (de_call C hr gu g ha hg hd he hpl) ?_
  rintro σ H Q0 ⟨F, M, ρ, Q, rs, rl, q, k⟩
  refine ⟨F, M, ρ, Q, rs, rl, ?_, k⟩
  show t ρ M fun ds M1 => sp (ds ++ []) M1 Q
  simp only [List.append_nil]; exact q
theorem de_call10 {k : Nat} {x : Str} {sp : DS1} (C : Cal1 X.prog X.w X.K Y.T X.mg X.base k x sp) (hr : Room k X.A) (gu : X.A.guards = some []) (g : XT Y) (hg : Gl X x := by rfl) (hd : (x == ("__debug__" : Str)) = false := by decide) : DE X Y (.Call (.Name x p) [] [] pos) (dCall1 sp dNil) := by
  refine PE.weak (de_call0 C hr gu g hg hd) ?_
  rintro σ H Q0 ⟨F, M, ρ, Q, rs, rl, q, k⟩
  exact ⟨F, M, ρ, Q, rs, rl, q, k⟩
def dCallE (sp : DSp) (t : DTA) (E : DXK) : DTE := fun ρ M Q => t ρ M fun ds M1 => sp ds M1 Q E
theorem de_callE {k : Nat} {x : Str} {sp : DSp} {e : Expr} {args : List Expr} {t : DTA} {E : DXK} (C : Cal X.prog X.w X.K Y.T X.mg X.base k x [] sp) (hr : Room k X.A) (gu : X.A.guards = some []) (g : XG X Y E) (ha : DA X Y (e :: args) t) (hg : Gl X x := by rfl)
    (hd : (x == ("__debug__" : Str)) = false := by decide) (he : starEach (e :: args) X.env = (false, eval e X.env) :: starEach args X.env := by rfl) (hpl : (backTo pos (starEach args X.env)).any (·.1) = false := by rfl) :
    DE X Y (.Call (.Name x p) (e :: args) [] pos) (dCallE sp t E) := by
  refine PE.weak (de_callX C hr gu g ha hg hd he hpl) ?_
  rintro σ H Q0 ⟨F, M, ρ, Q, rs, rl, q, k⟩
  refine ⟨F, M, ρ, Q, rs, rl, ?_, k⟩
  show t ρ M fun ds M1 => sp (ds ++ []) M1 Q E
  simp only [List.append_nil]; exact q
theorem Cal.on {P : Program} {w : World} {K : PySem.W.Frag} {T T' : TT8} {mg : Str → Option Value} {base : Heap} {k : Nat} {x : Str} {es : List DL.D} {sp : DSp} (C : Cal P w K T mg base k x es sp) (h : T' = T) : Cal P w K T' mg base k x es sp := h ▸ C
theorem CalA.on {P : Program} {w : World} {K : PySem.W.Frag} {T T' : TT8} {mg : Str → Option Value} {base : Heap} {k : Nat} {f : Addr} {sp : DSp} (C : CalA P w K T mg base k f sp) (h : T' = T) : CalA P w K T' mg base k f sp := h ▸ C
theorem dcal1 {P : Program} {w : World} {K : PySem.W.Frag} {T : TT8} {mg : Str → Option Value} {base : Heap} {x qual : Str} {st : Stmt} {N ps : List Str} {k : Nat} {sp : DS1} (h : Has K mg x qual st ps []) (S : FnScope N ps (defScope st)) {t : DTS}
    (body : ∀ f, DBody P w K T mg base k N qual st f fun _ => t) (read : ∀ ds M Q, sp ds M Q → ds.length = ps.length ∧ t { nx := fun _ M' => Q .non M', rt := Q } (dstart N ds) M) : Cal1 P w K T mg base (k + 1) x sp :=
  dcal h S body fun ds M Q E => read ds M Q
theorem Cal1.weak {P : Program} {w : World} {K : PySem.W.Frag} {T : TT8} {mg : Str → Option Value} {base : Heap} {k : Nat} {x : Str} {sp1 sp2 : DS1} (C : Cal1 P w K T mg base k x sp1)
    (h : ∀ ds M Q, sp2 ds M Q → sp1 ds M fun d M1 => ∃ M2, SubM M2 M1 ∧ Q d M2) : Cal1 P w K T mg base k x sp2 := Cal.weak C fun ds M Q E => h ds M Q
end
end DL

set_option maxHeartbeats 4000000
/-! DL15: defs that make lambdas. -/
namespace DL
open PySem PySem.Spec L2
open PyProof.Rows hiding St

/-- the name of the lambdas of the def x -/
def lamQ (x : Str) : Str := x ++ ".<locals>." ++ "<lambda>"
/-- a body whose code object is known -/
def DBodyC (P : Program) (w : World) (K : PySem.W.Frag) (T : TT8) (mg : Str → Option Value) (base : Heap) (k : Nat) (N : List Str) (qual : Str) (st : Stmt) (f : Addr) (cdv : Value) (t : DXK → DTS) : Prop :=
  ∀ (A : Around) (outer : List Env) (s : Shared) (H : Hp) (E : XK) (Y : KJ K) (E1 : DXK), Y.T = T → Room k (A.deeper (envOfC qual (defScope st) s.heap.objs.size f cdv)) → (A.deeper (envOfC qual (defScope st) s.heap.objs.size f cdv)).guards = some [] →
    XG (cxOf (L2.CX P w) P w K mg base N qual (defScope st) f cdv A outer s H E) Y E1 → DSs (cxOf (L2.CX P w) P w K mg base N qual (defScope st) f cdv A outer s H E) Y (defBody st) (t E1)
section
variable {P : Program} {w : World} {K : PySem.W.Frag} {T : TT8} {mg : Str → Option Value} {base : Heap} {x : Str} {st : Stmt} {N ps : List Str} {k : Nat} {sp : DSp} {f : Addr} {oc : Value} {od : Option Addr} {dV kV doc pm : Value} {an : Option Addr} {cd ct : Value} {osl : Array (Option Value)}
theorem dgnL (lk : K.lookup f = some ⟨oc, od, .func (PySem.W.fnOf x x (defArgs st) (defBody st) (defScope st) dV kV doc pm an cd ct), osl⟩) (hcd : PySem.W.codeIn K cd x = true) (S : FnScope N ps (defScope st)) {t : DXK → DTS}
    (body : DBodyC P w K T mg base k N x st f cd t) (read : ∀ ds M Q E, sp ds M Q E → ds.length = ps.length ∧ t E { nx := fun _ M' => Q .non M', rt := Q } (dstart N ds) M) :
    GnOk P w K mg base (L2.CX P w) (k + 1) f (PySem.W.fnOf x x (defArgs st) (defBody st) (defScope st) dV kV doc pm an cd ct) ps (lift K T sp) := by
  refine gfn_of lk hcd S ?_ ?_
  · rintro vs H Q E0 ⟨ds, F, M, Q, E, rp, _, _, q, _⟩
    rw [rp.length]; exact (read ds M Q E q).1
  · rintro A outer s H vs Q0 E0 room gu ⟨ds, F, M, Q, E, rp, r, tb, q, kk, ke⟩
    have g : XG (cxOf (L2.CX P w) P w K mg base N x (defScope st) f cd A outer s H E0) (fromE K T F M H) E :=
      ⟨fun F M H j => j.2, fun cls d _ H => E0 cls d H, takes_of rfl rfl rfl rfl, fun σ F' M' H' y v cls d R e z => ke y v cls d F' M' H' R.j.1 e z⟩
    have s0 : Rel (fromE K T F M H) F M H := ⟨r, StpR.refl r, tb⟩
    exact ⟨_, body A outer s H E0 (fromE K T F M H) E rfl room gu g, F, M, dstart N ds, _, relS_start rp, s0, (read ds M Q E q).2, ⟨fun _ _ F' M' H' s' _ q' => kk .non .non F' M' H' s'.s .non q', fun v d F' M' H' s' rp' q' => kk v d F' M' H' s'.s rp' q', fun _ _ _ _ _ _ _ z => z.elim, fun _ _ _ _ _ _ _ z => z.elim⟩⟩
/-- a def of the text whose code object is at c -/
def HasL (K : PySem.W.Frag) (mg : Str → Option Value) (x : Str) (st : Stmt) (ps : List Str) (c : Addr) : Prop :=
  ∃ (f : Addr) (oc : Value) (od : Option Addr) (kV doc pm : Value) (an : Option Addr) (ct : Value) (osl : Array (Option Value)),
    K.lookup f = some ⟨oc, od, .func (PySem.W.fnOf x x (defArgs st) (defBody st) (defScope st) .none kV doc pm an (.ref c) ct), osl⟩ ∧ PySem.W.codeIn K (.ref c) x = true ∧ PySem.W.keepIn K (.ref f) = true ∧ mg x = some (.ref f) ∧ Binds K (PySem.W.fnOf x x (defArgs st) (defBody st) (defScope st) .none kV doc pm an (.ref c) ct) ps []
theorem code_tab {c PP : Addr} (a : PySem.W.nsIn K mainGlobals x = some (some (.ref f))) (lk : K.lookup f = some ⟨oc, od, .func (PySem.W.fnOf x x (defArgs st) (defBody st) (defScope st) dV kV doc pm an cd ct), osl⟩) (t : PySem.W.tabIn K x = some (c, PP)) : cd = .ref c := by
  unfold PySem.W.tabIn at t
  rw [a] at t
  simp only [lk] at t
  cases cd with
  | ref c' =>
    simp only at t
    split at t
    · split at t
      · cases t; rfl
      · cases t
    · cases t
  | _ => simp at t
theorem hasL_of {h : Heap} (X : K.In h) (G : h.Ns mainGlobals mg) (D : Dfn K x st) {c PP : Addr} (t : PySem.W.tabIn K x = some (c, PP))
    (b : ∀ (kV doc pm : Value) (an : Option Addr) (cd ct : Value) (us : List Value), us.length = ps.length → bindArgs (PySem.W.fnOf x x (defArgs st) (defBody st) (defScope st) .none kV doc pm an cd ct) ⟨us, []⟩ = pure (ps.zip us)) : HasL K mg x st ps c := by
  obtain ⟨f, oc, od, kV, doc, pm, an, cd, ct, osl, a, l, hc, k⟩ := D
  obtain rfl := code_tab a l t
  exact ⟨f, oc, od, kV, doc, pm, an, ct, osl, l, hc, k, PySem.W.mg_of X G a, .all (b kV doc pm an _ ct)⟩
theorem dcalL {c : Addr} (h : HasL K mg x st ps c) (S : FnScope N ps (defScope st)) {t : DXK → DTS} (body : ∀ f, DBodyC P w K T mg base k N x st f (.ref c) t)
    (read : ∀ ds M Q E, sp ds M Q E → ds.length = ps.length ∧ t E { nx := fun _ M' => Q .non M', rt := Q } (dstart N ds) M) : Cal P w K T mg base (k + 1) x [] sp := by
  obtain ⟨f, oc, od, kV, doc, pm, an, ct, osl, lk, hcd, kp, m, b⟩ := h
  exact ⟨f, _, ps, [], [], dgnL lk hcd S (body f) read, m, kp, b, .nil, fun F => .nil⟩
end
end DL

set_option maxHeartbeats 4000000
/-! DL16: a tuple, some times. -/
namespace DL
open PySem PySem.Spec L2
open PyProof.Rows hiding St
def rRepTD : RD2 := fun x y M Q => ∃ xs n, x = .tup xs ∧ y = .int n ∧ xs ≠ [] ∧ xs.length ≤ 1000 ∧ 2 ≤ n ∧ n ≤ 1000 ∧ Q (.tup (List.replicate n.toNat xs).flatten) M
section
variable {X : Cx} {Y : KJ X.K}
theorem od_repT : OpD X Y (binaryOp .Mult) rRepTD := by
  intro pins s σ H x y v u Q0 I rx ry ⟨F, M, d, e, Q, r1, r2, rl, ⟨xs, n, e1, e2, h1, h2, h3, h4, q⟩, k⟩
  subst e1 e2
  cases r2
  cases r1 with
  | tup sq ra =>
    refine op_repT pins s σ H _ _ v u Q0 I rx ry ⟨_, n, _, rfl, rfl, Same.tseq rl.sub sq, ?_, h3, h4, by rw [ra.length]; exact h2, fun p hp => newT_ok rl (ra.rep _) q k p hp⟩
    intro z
    subst z
    cases ra
    exact h1 rfl
end
end DL

set_option maxHeartbeats 4000000
/-! DX7: objects with fields: o.f, o.f = e, C(..), o.m(..); texts' replace. -/
namespace DL
open PySem PySem.Spec L2
open PyProof.Rows hiding St

section
variable {X : Cx} {Y : KJ X.K} {pos pos' apos p : Pos} {o e : Expr} {es : List Expr} {t to tv : DTE} {ta : DTA} {x f m : Str}
/-- the field f of an instance of the class that stands under x -/
structure Fld (K : PySem.W.Frag) (x f : Str) : Prop where
  ex : ∃ C, PySem.W.nsIn K mainGlobals x = some (some (.ref C)) ∧ L2.Cls K C ∧ NoAttr K C f
def dFld (x f : Str) (t : DTE) : DTE := fun ρ M Q => t ρ M fun d M1 => ∃ a fs v, d = .ref a ∧ M1 a = some (.obj x fs) ∧ fs.lookup f = some v ∧ Q v M1
theorem de_fld (W : Fld X.K x f) (he : DE X Y e t) (hb : attributeBase e f X.env (eval e X.env) = eval e X.env := by rfl) : DE X Y (.Attribute e f pos) (dFld x f t) := by
  obtain ⟨C, n, c, na⟩ := W.ex
  refine PE.weak (pe_fld he hb) ?_
  rintro σ H Q0 ⟨F, M, ρ, Q, rs, rl, q, k⟩
  refine ⟨F, M, ρ, _, rs, rl, q, fun v d F1 M1 H1 s1 rp1 ⟨a, fs, y, e1, hm, hl, q1⟩ => ?_⟩
  subst e1
  cases rp1
  obtain ⟨C', dx, vs, h1, n', rf⟩ := s1.rel.obj hm
  cases n.symm.trans n'
  obtain ⟨u, hu, ru⟩ := rf.look hl
  exact ⟨a, C, dx, vs, u, rfl, h1, c, na, hu, k _ _ F1 M1 H1 s1 ru q1⟩
def dSetF (x f : Str) (to tv : DTE) : DTS := fun D ρ M => tv ρ M fun y M1 => to ρ M1 fun o M2 => ∃ a fs, o = .ref a ∧ M2 a = some (.obj x fs) ∧ fs.length < 1000 ∧ D.nx ρ (mu M2 a (.obj x (putD f y fs)))
theorem ds_setF {value : Expr} (W : Fld X.K x f) (ho : DE X Y o to) (hv : DE X Y value tv) (hs : swapsWith value (some (.Attribute o f pos')) pos.line X.env = pure false := by rfl) : DS X Y (.Assign [.Attribute o f pos'] value pos) (dSetF x f to tv) := by
  obtain ⟨C, n, c, na⟩ := W.ex
  refine PS.weak (ps_fld ho hv hs) ?_
  rintro D0 σ H ⟨F, M, ρ, D, rs, rl, q, k⟩
  refine ⟨F, M, ρ, _, rs, rl, q, fun y d F1 M1 H1 s1 r1 q1 => ⟨F1, M1, ρ, _, rs.mono s1.same, s1.rel, q1, fun o od F2 M2 H2 s2 r2 ⟨a, fs, e, hm, hl, q2⟩ => ?_⟩⟩
  subst e
  cases r2
  obtain ⟨C', dx, vs, h1, n', rf⟩ := s2.rel.obj hm
  cases n.symm.trans n'
  have s3 := s2.rel.setO hm h1 n (rf.put (f := f) (r1.mono s2.same))
  exact ⟨a, C, dx, vs, rfl, h1, c, na, by rw [rf.length]; exact hl, k.nx σ ρ F2 _ _ ((s1.trans s2).trans s3) (rs.mono (s1.same.trans s2.same)) q2⟩
end
/-! ### methods -/
section
variable {X : Cx} {CX : CXT} {k : Nat} {C f : Addr} {m : Str} {fd : FuncData} {ps : List Str} {sp : Sp} {dvs : List V} {ds : List Value} {E : XK} {x : Str} {p pos apos : Pos} {o e : Expr} {es : List Expr} {ta : TE} {t : TA}
theorem pe_gmeth {pl : Sem Bool} (he : PE X o ta) (c : L2.Cls X.K C) (hm : Meth X.K C m f) (G : GnOk X.prog X.w X.K X.mg X.base CX k f fd ps sp) (room : Room k X.A) (gu : X.A.guards = some []) (bi : Binds X.K fd ps ds) (dv : Vals dvs ds) (out : Passes CX X E) (ha : PA X (e :: es) t)
    (hst : starEach (e :: es) X.env = (false, eval e X.env) :: starEach es X.env := by rfl) (hpl : (backTo pos (starEach es X.env)).any (·.1) = false := by rfl)
    (ht : eval (.Call (.Attribute o m apos) (e :: es) [] pos) X.env = (do
      let ov ← eval o X.env
      standAt apos.atName
      let (f, first) ← holding [ov] (getMethod ov m pl)
      callWith pos f first (backTo pos (starEach (e :: es) X.env)) (backToKw pos (keywordEach [] X.env))) := by rfl) :
    PE X (.Call (.Attribute o m apos) (e :: es) [] pos) (tMeth C m sp dvs E ta t) := by
  refine ⟨fun pins s σ H Q I h => ?_⟩
  refine PySem.W.methodCall_KW (pl := pl) (thn (he.run pins s σ H _ I h) fun u s1 ⟨x, H1, I1, rx, a, dx, fs, ex, ea, l, q⟩ => ?_) ht
  subst ex
  obtain rfl : u = Value.ref a := rx
  refine getmeth_ok I1 ea c hm l ?_
  refine PySem.W.callWith_K (first := [.ref a]) (h₀ := X.base) I.ok.mod.kin hm.kp (thn (ha.run pos pins s1 σ H1 _ I1 q) fun us s2 ⟨vs, H2, I2, r, q2⟩ => ⟨I2.kIn, ?_⟩) hst hpl
  exact run_gn (us := .ref a :: us) (vs := .ref a :: vs) G room gu bi dv out I2 (.cons rfl r) q2
theorem pe_gmeth0 {pl : Sem Bool} (he : PE X o ta) (c : L2.Cls X.K C) (hm : Meth X.K C m f) (G : GnOk X.prog X.w X.K X.mg X.base CX k f fd ps sp) (room : Room k X.A) (gu : X.A.guards = some []) (bi : Binds X.K fd ps ds) (dv : Vals dvs ds) (out : Passes CX X E)
    (ht : eval (.Call (.Attribute o m apos) [] [] pos) X.env = (do
      let ov ← eval o X.env
      standAt apos.atName
      let (f, first) ← holding [ov] (getMethod ov m pl)
      callWith pos f first (backTo pos (starEach [] X.env)) (backToKw pos (keywordEach [] X.env))) := by rfl) :
    PE X (.Call (.Attribute o m apos) [] [] pos) (tMeth C m sp dvs E ta tNil) := by
  refine ⟨fun pins s σ H Q I h => ?_⟩
  refine PySem.W.methodCall_KW (pl := pl) (thn (he.run pins s σ H _ I h) fun u s1 ⟨x, H1, I1, rx, a, dx, fs, ex, ea, l, q⟩ => ?_) ht
  subst ex
  obtain rfl : u = Value.ref a := rx
  refine getmeth_ok I1 ea c hm l ?_
  exact PySem.W.callWith_K0 (first := [.ref a]) I1.kIn hm.kp (run_gn (us := [.ref a]) (vs := [.ref a]) G room gu bi dv out I1 (.cons rfl .nil) q)
theorem run_gmake {pins : List (Addr × Obj)} {σ : St} {H : Hp} {s : Shared} {Q : VK} {us : List Value} {vs : List V} (M : Mk X.K C f) (G : GnOk X.prog X.w X.K X.mg X.base CX k f fd ps sp) (hr : Room (k + 1) X.A) (gu : X.A.guards = some []) (hb : Binds X.K fd ps ds) (hd : Vals dvs ds)
    (hx : Passes CX X E) (I : Inv X pins σ H s) (r : Vals vs us)
    (h : ∀ x dx, H x = none → H dx = none → dx ≠ x → sp (.ref x :: (vs ++ dvs)) (upd (upd H dx (.own x)) x (.ins C dx [])) (fun v H2 => v = .non ∧ Q (.ref x) H2) E) :
    wpAny (model X.prog X.w) X.A (call (.ref C) us) (EP X pins σ Q) X.xe s := by
  have hq := h (s.heap.objs.size + 1) s.heap.objs.size (I.hok.fresh (Nat.le_succ _)) (I.hok.fresh (Nat.le_refl _)) (Nat.ne_of_lt (Nat.lt_succ_self _))
  have I2 := Inv.made (C := C) I
  have r2 : Vals (V.ref (s.heap.objs.size + 1) :: (vs ++ dvs)) (Value.ref (s.heap.objs.size + 1) :: (us ++ ds)) := .cons rfl (r.append hd)
  have hl : (Value.ref (s.heap.objs.size + 1) :: us ++ ds).length = ps.length := by
    have e := r2.length
    rw [G.many hq] at e
    exact e.symm
  refine wpAny_call (make_map (f := f) I.kIn M.makes M.init (beq_iff_eq.mp M.fn) (codeAny_mono (G.go (args := ⟨Value.ref (s.heap.objs.size + 1) :: us, []⟩) (us := Value.ref (s.heap.objs.size + 1) :: (us ++ ds)) (hr.make C us []) gu
    (I2.env0.make C us []) (hb _ (Value.ref (s.heap.objs.size + 1) :: us) I2.kIn hl) r2 hq) fun r s' hq' => ?_))
  cases r with
  | error e => exact hx pins σ _ _ e s' I2 hq'
  | ok fl =>
    cases fl with
    | ret u =>
      obtain ⟨v, H', I3, rv, ev, q3⟩ := I2.after hq'
      subst ev
      exact ⟨rv, ⟨V.ref (s.heap.objs.size + 1), H', I3, rfl, q3⟩⟩
    | next => exact False.elim hq'
    | brk => exact False.elim hq'
    | cont => exact False.elim hq'
theorem pe_gmake (M : Mk X.K C f) (G : GnOk X.prog X.w X.K X.mg X.base CX k f fd ps sp) (hr : Room (k + 1) X.A) (gu : X.A.guards = some []) (hg : Gl X x) (hm : X.mg x = some (.ref C)) (hb : Binds X.K fd ps ds) (hd : Vals dvs ds) (hx : Passes CX X E)
    (ha : PA X (e :: es) t) (hdb : (x == ("__debug__" : Str)) = false := by decide) (he : starEach (e :: es) X.env = (false, eval e X.env) :: starEach es X.env := by rfl) (hpl : (backTo pos (starEach es X.env)).any (·.1) = false := by rfl) :
    PE X (.Call (.Name x p) (e :: es) [] pos) (tMake C sp dvs E t) := by
  refine ⟨fun pins s σ H Q I h => ?_⟩
  refine wpAny_Call_Name_kw (ld_glob I hg hm ?_ hdb)
  refine PySem.W.callWith_K (h₀ := X.base) I.ok.mod.kin M.kp (thn (ha.run pos pins s σ H _ I h) fun us s1 ⟨vs, H1, I1, r, q⟩ => ⟨I1.kIn, ?_⟩) he hpl
  exact run_gmake M G hr gu hb hd hx I1 r q
end
/-- a method m of the class that stands under x, by its promise over data -/
structure CalM (P : Program) (w : World) (K : PySem.W.Frag) (T : TT8) (mg : Str → Option Value) (base : Heap) (k : Nat) (x m : Str) (sp : DS1) : Prop where
  ex : ∃ (C f : Addr) (fd : FuncData) (ps : List Str), PySem.W.nsIn K mainGlobals x = some (some (.ref C)) ∧ L2.Cls K C ∧ Meth K C m f ∧ GnOk P w K mg base (L2.CX P w) k f fd ps (lift K T (quiet sp)) ∧ Binds K fd ps []
theorem CalM.mono {P : Program} {w : World} {K : PySem.W.Frag} {T : TT8} {mg : Str → Option Value} {base : Heap} {j k : Nat} {x m : Str} {sp : DS1} (C : CalM P w K T mg base j x m sp) (h : j ≤ k) : CalM P w K T mg base k x m sp := by
  obtain ⟨c, f, fd, ps, a, b, d, G, r⟩ := C.ex
  exact ⟨c, f, fd, ps, a, b, d, G.up h, r⟩
theorem CalM.on {P : Program} {w : World} {K : PySem.W.Frag} {T T' : TT8} {mg : Str → Option Value} {base : Heap} {k : Nat} {x m : Str} {sp : DS1} (C : CalM P w K T mg base k x m sp) (h : T' = T) : CalM P w K T' mg base k x m sp := h ▸ C
/-- the class that stands under x is made by its __init__ -/
structure CalC (P : Program) (w : World) (K : PySem.W.Frag) (T : TT8) (mg : Str → Option Value) (base : Heap) (k : Nat) (x : Str) (sp : DS1) : Prop where
  ex : ∃ (C f : Addr) (fd : FuncData) (ps : List Str), mg x = some (.ref C) ∧ PySem.W.nsIn K mainGlobals x = some (some (.ref C)) ∧ Mk K C f ∧ GnOk P w K mg base (L2.CX P w) k f fd ps (lift K T (quiet sp)) ∧ Binds K fd ps []
theorem CalC.mono {P : Program} {w : World} {K : PySem.W.Frag} {T : TT8} {mg : Str → Option Value} {base : Heap} {j k : Nat} {x : Str} {sp : DS1} (C : CalC P w K T mg base j x sp) (h : j ≤ k) : CalC P w K T mg base k x sp := by
  obtain ⟨c, f, fd, ps, a, b, d, G, r⟩ := C.ex
  exact ⟨c, f, fd, ps, a, b, d, G.up h, r⟩
theorem CalC.on {P : Program} {w : World} {K : PySem.W.Frag} {T T' : TT8} {mg : Str → Option Value} {base : Heap} {k : Nat} {x : Str} {sp : DS1} (C : CalC P w K T mg base k x sp) (h : T' = T) : CalC P w K T' mg base k x sp := h ▸ C
section
variable {X : Cx} {Y : KJ X.K} {pos apos p : Pos} {o e : Expr} {es : List Expr} {to : DTE} {ta : DTA} {x m : Str} {k : Nat} {sp : DS1}
def dMeth (x m : Str) (sp : DS1) (to : DTE) (ta : DTA) : DTE := fun ρ M Q => to ρ M fun d M1 => ∃ a fs, d = .ref a ∧ M1 a = some (.obj x fs) ∧ fs.lookup m = none ∧ ta ρ M1 fun ds M2 => sp (d :: ds) M2 Q
theorem can_meth {C : Addr} {σ : St} {H : Hp} {Q0 : VK} (tb : XT Y) (n : PySem.W.nsIn X.K mainGlobals x = some (some (.ref C))) (h : canE Y (dMeth x m sp to ta) σ H Q0) :
    tMeth C m (lift X.K Y.T (quiet sp)) [] (xw Y fun _ _ _ => False) (canE Y to) (canA Y ta) σ H Q0 := by
  obtain ⟨F, M, ρ, Q, rs, rl, q, k⟩ := h
  refine ⟨F, M, ρ, _, rs, rl, q, fun v d F1 M1 H1 s1 rp1 ⟨a, fs, e1, hm, hl, q1⟩ => ?_⟩
  subst e1
  cases rp1
  obtain ⟨C', dx, vs, h1, n', rf⟩ := s1.rel.obj hm
  cases n.symm.trans n'
  refine ⟨a, dx, vs, rfl, h1, rf.look0 hl, F1, M1, ρ, _, rs.mono s1.same, s1.rel, q1, fun ws ds F2 M2 H2 s2 rp2 q2 => ?_⟩
  show lift X.K Y.T (quiet sp) (V.ref a :: (ws ++ [])) H2 Q0 (xw Y fun _ _ _ => False)
  rw [List.append_nil]
  exact ⟨.ref a :: ds, F2, M2, Q, fun _ _ _ => False, .cons (.ref a) rp2, s2.rel.r, tb.tabs _ _ _ s2.rel.j, q2, fun v d F3 M3 H3 s3 => k v d F3 M3 H3 ((s1.trans s2).trans (Stp.of s2.rel s3)), fun _ _ _ _ _ _ _ _ _ z => z.elim⟩
theorem de_meth {pl : Sem Bool} (W : CalM X.prog X.w X.K Y.T X.mg X.base k x m sp) (hr : Room k X.A) (gu : X.A.guards = some []) (g : XT Y) (ho : DE X Y o to) (ha : DA X Y (e :: es) ta)
    (hst : starEach (e :: es) X.env = (false, eval e X.env) :: starEach es X.env := by rfl) (hpl : (backTo pos (starEach es X.env)).any (·.1) = false := by rfl)
    (ht : eval (.Call (.Attribute o m apos) (e :: es) [] pos) X.env = (do
      let ov ← eval o X.env
      standAt apos.atName
      let (f, first) ← holding [ov] (getMethod ov m pl)
      callWith pos f first (backTo pos (starEach (e :: es) X.env)) (backToKw pos (keywordEach [] X.env))) := by rfl) :
    DE X Y (.Call (.Attribute o m apos) (e :: es) [] pos) (dMeth x m sp to ta) := by
  obtain ⟨C, f, fd, ps, n, c, me, G, b⟩ := W.ex
  exact PE.weak (pe_gmeth (pl := pl) ho c me G hr gu b .nil g.none.out ha hst hpl ht) fun σ H Q0 q => can_meth g n q
theorem de_meth0 {pl : Sem Bool} (W : CalM X.prog X.w X.K Y.T X.mg X.base k x m sp) (hr : Room k X.A) (gu : X.A.guards = some []) (g : XT Y) (ho : DE X Y o to)
    (ht : eval (.Call (.Attribute o m apos) [] [] pos) X.env = (do
      let ov ← eval o X.env
      standAt apos.atName
      let (f, first) ← holding [ov] (getMethod ov m pl)
      callWith pos f first (backTo pos (starEach [] X.env)) (backToKw pos (keywordEach [] X.env))) := by rfl) :
    DE X Y (.Call (.Attribute o m apos) [] [] pos) (dMeth x m sp to dNil) := by
  obtain ⟨C, f, fd, ps, n, c, me, G, b⟩ := W.ex
  refine PE.weak (pe_gmeth0 (pl := pl) ho c me G hr gu b .nil g.none.out ht) fun σ H Q0 q => ?_
  obtain ⟨F, M, ρ, Q, rs, rl, q, k⟩ := q
  refine ⟨F, M, ρ, _, rs, rl, q, fun v d F1 M1 H1 s1 rp1 ⟨a, fs, e1, hm, hl, q1⟩ => ?_⟩
  subst e1
  cases rp1
  obtain ⟨C', dx, vs, h1, n', rf⟩ := s1.rel.obj hm
  cases n.symm.trans n'
  exact ⟨a, dx, vs, rfl, h1, rf.look0 hl, [.ref a], F1, M1, Q, fun _ _ _ => False, .cons (.ref a) .nil, s1.rel.r, g.tabs _ _ _ s1.rel.j, q1, fun v d F3 M3 H3 s3 => k v d F3 M3 H3 (s1.trans (Stp.of s1.rel s3)), fun _ _ _ _ _ _ _ _ _ z => z.elim⟩
def dMake (x : Str) (sp : DS1) (ta : DTA) : DTE := fun ρ M Q => ta ρ M fun ds M1 => ∀ a, M1 a = none → sp (.ref a :: ds) (mu M1 a (.obj x [])) fun v M2 => v = .non ∧ Q (.ref a) M2
theorem de_make (W : CalC X.prog X.w X.K Y.T X.mg X.base k x sp) (hr : Room (k + 1) X.A) (gu : X.A.guards = some []) (g : XT Y) (ha : DA X Y (e :: es) ta) (hg : Gl X x := by rfl)
    (hd : (x == ("__debug__" : Str)) = false := by decide) (he : starEach (e :: es) X.env = (false, eval e X.env) :: starEach es X.env := by rfl) (hpl : (backTo pos (starEach es X.env)).any (·.1) = false := by rfl) :
    DE X Y (.Call (.Name x p) (e :: es) [] pos) (dMake x sp ta) := by
  obtain ⟨C, f, fd, ps, m, n, mk, G, b⟩ := W.ex
  refine PE.weak (pe_gmake mk G hr gu hg m b .nil g.none.out ha hd he hpl) ?_
  rintro σ H Q0 ⟨F, M, ρ, Q, rs, rl, q, k⟩
  refine ⟨F, M, ρ, _, rs, rl, q, fun vs ds F1 M1 H1 s1 rp q1 a dx ha hdx ne => ?_⟩
  rw [List.append_nil]
  have s2 := s1.rel.newF hdx (.own a)
  have ha2 : upd H1 dx (.own a) a = none := by rw [upd_ne (Ne.symm ne)]; exact ha
  have s3 := s2.rel.newM ha2 (o := .ins C dx []) (m := .obj x []) ⟨n, .nil⟩
  refine ⟨.ref a :: ds, _, _, _, fun _ _ _ => False, .cons (.ref a) (rp.mono s2.same), s3.rel.r, g.tabs _ _ _ s3.rel.j, q1 a (s1.rel.mnone ha), fun v d F' M' H' s r ⟨e1, q'⟩ => ?_, fun _ _ _ _ _ _ _ _ _ z => z.elim⟩
  subst e1
  cases r
  exact ⟨rfl, k (.ref a) (.ref a) F' M' H' (((s1.trans s2).trans s3).trans (Stp.of s3.rel s)) (.ref a) q'⟩
end
/-! ### a class's defs as they stand behind the top -/
/-- the method m (its full name qual) of the class under x -/
structure HasM (K : PySem.W.Frag) (x m qual : Str) (st : Stmt) (ps : List Str) : Prop where
  ex : ∃ (C f : Addr) (oc : Value) (od : Option Addr) (kV doc pm : Value) (an : Option Addr) (cdv ct : Value) (osl : Array (Option Value)), PySem.W.nsIn K mainGlobals x = some (some (.ref C)) ∧ L2.Cls K C ∧ Meth K C m f ∧
    K.lookup f = some ⟨oc, od, .func (PySem.W.fnOf m qual (defArgs st) (defBody st) (defScope st) .none kV doc pm an cdv ct), osl⟩ ∧ PySem.W.codeIn K cdv qual = true ∧
      Binds K (PySem.W.fnOf m qual (defArgs st) (defBody st) (defScope st) .none kV doc pm an cdv ct) ps []
theorem dcalM {P : Program} {w : World} {K : PySem.W.Frag} {T : TT8} {mg : Str → Option Value} {base : Heap} {x m qual : Str} {st : Stmt} {N ps : List Str} {k : Nat} {sp : DS1} (h : HasM K x m qual st ps) (S : FnScope N ps (defScope st)) {t : DTS}
    (body : ∀ f, DBody P w K T mg base k N qual st f fun _ => t) (read : ∀ ds M Q, sp ds M Q → ds.length = ps.length ∧ t { nx := fun _ M' => Q .non M', rt := Q } (dstart N ds) M) : CalM P w K T mg base (k + 1) x m sp := by
  obtain ⟨C, f, oc, od, kV, doc, pm, an, cdv, ct, osl, n, c, me, lk, hcd, b⟩ := h.ex
  exact ⟨C, f, _, ps, n, c, me, dgn lk hcd S (body f) fun ds M Q E => read ds M Q, b⟩
/-- the __init__ of the class under x -/
structure HasC (K : PySem.W.Frag) (mg : Str → Option Value) (x qual : Str) (st : Stmt) (ps : List Str) : Prop where
  ex : ∃ (C f : Addr) (oc : Value) (od : Option Addr) (kV doc pm : Value) (an : Option Addr) (cdv ct : Value) (osl : Array (Option Value)), mg x = some (.ref C) ∧ PySem.W.nsIn K mainGlobals x = some (some (.ref C)) ∧ Mk K C f ∧
    K.lookup f = some ⟨oc, od, .func (PySem.W.fnOf "__init__" qual (defArgs st) (defBody st) (defScope st) .none kV doc pm an cdv ct), osl⟩ ∧ PySem.W.codeIn K cdv qual = true ∧
      Binds K (PySem.W.fnOf "__init__" qual (defArgs st) (defBody st) (defScope st) .none kV doc pm an cdv ct) ps []
theorem dcalC {P : Program} {w : World} {K : PySem.W.Frag} {T : TT8} {mg : Str → Option Value} {base : Heap} {x qual : Str} {st : Stmt} {N ps : List Str} {k : Nat} {sp : DS1} (h : HasC K mg x qual st ps) (S : FnScope N ps (defScope st)) {t : DTS}
    (body : ∀ f, DBody P w K T mg base k N qual st f fun _ => t) (read : ∀ ds M Q, sp ds M Q → ds.length = ps.length ∧ t { nx := fun _ M' => Q .non M', rt := Q } (dstart N ds) M) : CalC P w K T mg base (k + 1) x sp := by
  obtain ⟨C, f, oc, od, kV, doc, pm, an, cdv, ct, osl, m, n, mk, lk, hcd, b⟩ := h.ex
  exact ⟨C, f, _, ps, m, n, mk, dgn lk hcd S (body f) fun ds M Q E => read ds M Q, b⟩

/-! ### replace -/
/-- a text of the module's, its token known to be one -/
def GlobT (mg : Str → Option Value) (x : Str) (y : Str) (t : Tok) : Prop := mg x = some (.str y t)
section
variable {X : Cx} {Y : KJ X.K} {pos apos p p1 p2 c c0 c1 q0 : Pos} {o a : Expr} {to ta : DTE} {g1 g2 y z : Str} {u v : Tok} {i : Int} {j j0 j1 : Nat}
def tRepG (y z : Str) (to : TE) : TE := fun σ H Q => to σ H fun v H1 => ∃ x, v = .str x ∧ x.length + (x.length + 1) * z.length ≤ 16777216 ∧ Q (.str (Txt.replace x y z)) H1
theorem pe_repG {to : TE} (ho : PE X o to) (m1 : X.mg g1 = some (.str y u)) (m2 : X.mg g2 = some (.str z v)) (hu : u ≠ 0) (hv : v ≠ 0) (huv : u ≠ v) (hyz : (y == z) = false) (l1 : Gl X g1) (l2 : Gl X g2)
    (hd1 : (g1 == ("__debug__" : Str)) = false := by decide) (hd2 : (g2 == ("__debug__" : Str)) = false := by decide)
    (hst : starEach [.Name g1 p1, .Name g2 p2] X.env = [(false, eval (.Name g1 p1) X.env), (false, eval (.Name g2 p2) X.env)] := by rfl)
    (hbase : attributeBase o "replace" X.env (eval o X.env) = eval o X.env := by rfl) (hline : (apos.endLine == pos.line) = true := by rfl) :
    PE X (.Call (.Attribute o "replace" apos) [.Name g1 p1, .Name g2 p2] [] pos) (tRepG y z to) := by
  refine ⟨fun pins s σ H Q I h => ?_⟩
  refine PySem.Call_method2 hbase hst hline (thn (ho.run pins s σ H _ I h) fun uu s1 ⟨xv, H1, I1, rx, x, ex, hb, q⟩ => ?_)
  subst ex
  obtain ⟨tx, rfl⟩ := rx
  refine ⟨"str", _, F.plainAttrs_str, F.slot_str_replace, F.type_str_replace, typeIs_str _ _ _, (fun _ e => nomatch e), Calls.callWith_builtin rfl (Calls.evalArgs_plain (Calls.spliced_cons ?_))⟩
  refine ld_glob I1 l1 m1 ?_ hd1
  refine Calls.spliced_cons (ld_glob I1 l2 m2 ?_ hd2)
  refine Calls.spliced_nil ?_
  exact PySem.SC.replace hu hv huv hyz hb fun t' k => ⟨.str (Txt.replace x y z), H1, I1.tok k, ⟨t', rfl⟩, q⟩
theorem pe_repC {r : R2} {ta : TE} (hr : IxR X r) (ha : PE X a ta) (hyz : (y == z) = false) (hs : PlainIx (.Constant (.int i) j c) := by intro _ _; rfl)
    (hst : starEach [.Constant (.str y) j0 c0, .Constant (.str z) j1 c1] X.env = [(false, eval (.Constant (.str y) j0 c0) X.env), (false, eval (.Constant (.str z) j1 c1) X.env)] := by rfl)
    (hbase : attributeBase (.Subscript a (.Constant (.int i) j c) q0) "replace" X.env (eval (.Subscript a (.Constant (.int i) j c) q0) X.env) = eval (.Subscript a (.Constant (.int i) j c) q0) X.env := by rfl) (hline : (apos.endLine == pos.line) = true := by rfl) :
    PE X (.Call (.Attribute (.Subscript a (.Constant (.int i) j c) q0) "replace" apos) [.Constant (.str y) j0 c0, .Constant (.str z) j1 c1] [] pos) (tRepG y z (tOp r ta (tC (.int i)))) := by
  refine ⟨fun pins s σ H Q I h => ?_⟩
  refine PySem.Call_method2 hbase hst hline (Subscript_ (thn (ha.run pins s σ H _ I h) fun uu s1 ⟨xv, H1, I1, rx, q1⟩ => wpAny_Constant_int ?_))
  refine wpAny_mono (PySem.wpAny_toks (hr a _ pins { s1 with toks := s1.toks + 1 } σ H1 xv (.int i) uu (.int i s1.toks) _ (I1.tok _) rx ⟨_, rfl⟩ q1 (hs _ _))) (fun vv s2 q => ?_) fun _ _ z => z.2
  obtain ⟨hk, xv2, H2, I2, r2, x, ex, hb, q⟩ := q
  subst ex
  obtain ⟨tx, rfl⟩ := r2
  have hk' : 0 < s2.toks := Nat.lt_of_lt_of_le (Nat.succ_pos s1.toks) hk
  refine ⟨"str", _, F.plainAttrs_str, F.slot_str_replace, F.type_str_replace, typeIs_str _ _ _, (fun _ e => nomatch e), Calls.callWith_builtin rfl (Calls.evalArgs_plain (Calls.spliced_cons (Calls.Constant_str (Calls.spliced_cons (Calls.Constant_str (Calls.spliced_nil ?_))))))⟩
  exact PySem.SC.replace (u := s2.toks) (v := s2.toks + 1) (Nat.ne_of_gt hk') (Nat.succ_ne_zero _) (Nat.ne_of_lt (Nat.lt_succ_self _)) hyz hb fun t' k => ⟨.str (Txt.replace x y z), H2, I2.tok k, ⟨t', rfl⟩, q⟩
end
section
variable {X : Cx} {Y : KJ X.K} {pos apos p1 p2 c c0 c1 q0 : Pos} {o a : Expr} {to ta : DTE} {g1 g2 y z : Str} {i : Int} {j j0 j1 : Nat}
/-- two unlike texts of the module's, each an object of its own -/
def Two (mg : Str → Option Value) (g1 g2 : Str) (y z : Str) : Prop := ∃ u v, mg g1 = some (.str y u) ∧ mg g2 = some (.str z v) ∧ u ≠ 0 ∧ v ≠ 0 ∧ u ≠ v
def dRep (y z : Str) (to : DTE) : DTE := fun ρ M Q => to ρ M fun d M1 => ∃ x, d = .str x ∧ x.length + (x.length + 1) * z.length ≤ 16777216 ∧ Q (.str (Txt.replace x y z)) M1
theorem de_repG (W : Two X.mg g1 g2 y z) (hyz : (y == z) = false) (ho : DE X Y o to) (l1 : Gl X g1 := by rfl) (l2 : Gl X g2 := by rfl)
    (hd1 : (g1 == ("__debug__" : Str)) = false := by decide) (hd2 : (g2 == ("__debug__" : Str)) = false := by decide)
    (hst : starEach [.Name g1 p1, .Name g2 p2] X.env = [(false, eval (.Name g1 p1) X.env), (false, eval (.Name g2 p2) X.env)] := by rfl)
    (hbase : attributeBase o "replace" X.env (eval o X.env) = eval o X.env := by rfl) (hline : (apos.endLine == pos.line) = true := by rfl) :
    DE X Y (.Call (.Attribute o "replace" apos) [.Name g1 p1, .Name g2 p2] [] pos) (dRep y z to) := by
  obtain ⟨u, v, m1, m2, hu, hv, huv⟩ := W
  refine PE.weak (pe_repG ho m1 m2 hu hv huv hyz l1 l2 hd1 hd2 hst hbase hline) ?_
  rintro σ H Q0 ⟨F, M, ρ, Q, rs, rl, q, k⟩
  refine ⟨F, M, ρ, _, rs, rl, q, fun v d F1 M1 H1 s1 rp1 ⟨x, e1, hl, q1⟩ => ?_⟩
  subst e1
  cases rp1
  exact ⟨x, rfl, hl, k _ _ F1 M1 H1 s1 (.str _) q1⟩
theorem can_rep {t : DTE} {σ : St} {H : Hp} {Q0 : VK} (q : canE Y (dRep y z t) σ H Q0) : tRepG y z (canE Y t) σ H Q0 := by
  obtain ⟨F, M, ρ, Q, rs, rl, q, k⟩ := q
  refine ⟨F, M, ρ, _, rs, rl, q, fun v d F1 M1 H1 s1 rp1 ⟨x, e1, hl, q1⟩ => ?_⟩
  subst e1
  cases rp1
  exact ⟨x, rfl, hl, k _ _ F1 M1 H1 s1 (.str _) q1⟩
theorem can_int {σ : St} {H : Hp} {Q0 : VK} (q : canE Y (dC (.int i)) σ H Q0) : Q0 (.int i) H := by
  obtain ⟨F, M, ρ, Q, rs, rl, q, k⟩ := q
  exact k _ _ F M H (Stp.refl rl) (.int i) q
theorem de_repC (ha : DE X Y a ta) (hyz : (y == z) = false) (hs : PlainIx (.Constant (.int i) j c) := by exact fun _ _ => rfl)
    (hst : starEach [.Constant (.str y) j0 c0, .Constant (.str z) j1 c1] X.env = [(false, eval (.Constant (.str y) j0 c0) X.env), (false, eval (.Constant (.str z) j1 c1) X.env)] := by rfl)
    (hbase : attributeBase (.Subscript a (.Constant (.int i) j c) q0) "replace" X.env (eval (.Subscript a (.Constant (.int i) j c) q0) X.env) = eval (.Subscript a (.Constant (.int i) j c) q0) X.env := by rfl) (hline : (apos.endLine == pos.line) = true := by rfl) :
    DE X Y (.Call (.Attribute (.Subscript a (.Constant (.int i) j c) q0) "replace" apos) [.Constant (.str y) j0 c0, .Constant (.str z) j1 c1] [] pos) (dRep y z (dOp rIxD ta (dC (.int i)))) := by
  refine PE.weak (pe_repC (ixd (Y := Y)) ha hyz hs hst hbase hline) ?_
  intro σ H Q0 q
  have q1 := can_op (show canE Y (dOp rIxD ta (dC (.int i))) σ H _ from can_rep q)
  obtain ⟨F, M, ρ, Q, rs, rl, q2, k⟩ := q1
  exact ⟨F, M, ρ, Q, rs, rl, q2, fun v d F' M' H' s r h => can_int (k v d F' M' H' s r h)⟩
end
/-! ### three at once -/
def dPar3 (i j l : Nat) (t : DTA) : DTS := fun D ρ M => t ρ M fun ds M1 => ∃ d e f, ds = [d, e, f] ∧ D.nx (((ρ.set i (some d)).set j (some e)).set l (some f)) M1
theorem ds_par3 {X : Cx} {Y : KJ X.K} {i j l : Nat} {x y z : Str} {a b c : Expr} {t : DTA} {px py pz pt pos : Pos} {kt k2 pt2} (hc : X.calm = true) (hN : X.N.Nodup) (hi : X.N[i]? = some x) (hj : X.N[j]? = some y) (hl : X.N[l]? = some z) (hij : i ≠ j) (hil : i ≠ l) (hjl : j ≠ l)
    (hx : X.env.scope.names.lookup x = some .local) (hy : X.env.scope.names.lookup y = some .local) (hz : X.env.scope.names.lookup z = some .local) (ha : DA X Y [a, b, c] t)
    (hw : swappedStores [.Tuple [.Name x px, .Name y py, .Name z pz] kt pt] (.Tuple [a, b, c] k2 pt2) X.env = pure (some [x, y, z]) := by rfl)
    (hs : swapsWithSole [.Tuple [.Name x px, .Name y py, .Name z pz] kt pt] (.Tuple [a, b, c] k2 pt2) pos.line X.env = pure false := by rfl) :
    DS X Y (.Assign [.Tuple [.Name x px, .Name y py, .Name z pz] kt pt] (.Tuple [a, b, c] k2 pt2) pos) (dPar3 i j l t) := by
  refine PS.weak (ps_par3 hc hN hi hj hl hij hil hjl hx hy hz ha hw hs) ?_
  rintro D0 σ H ⟨F, M, ρ, D, rs, r, q, k⟩
  refine ⟨F, M, ρ, _, rs, r, q, fun vs ds F1 M1 H1 s1 rp ⟨d, e, f, he, q1⟩ => ?_⟩
  subst he
  cases rp with
  | cons r1 rt =>
    cases rt with
    | cons r2 rt2 =>
      cases rt2 with
      | cons r3 rt3 =>
        cases rt3
        exact ⟨_, _, _, rfl, k.nx _ _ F1 M1 H1 s1 ((((rs.mono s1.same).set r1 i).set r2 j).set r3 l) q1⟩
end DL

set_option maxHeartbeats 4000000
/-! DX8a: set(a list of numbers), sorted of a set, of a dict, of a list, any number of numbers. -/
namespace DL
open PySem PySem.Spec L2
open PyProof.Rows hiding St

/-- at most so many are in it -/
def FewI (ns : List Int) : Prop := ∀ ks : List Int, ks.Nodup → (∀ k ∈ ks, k ∈ ns) → ks.length + 1 < scanBound
theorem fewI_short {ns : List Int} (h : ns.length + 1 < scanBound) : FewI ns := by
  have sub : ∀ {ks l : List Int}, ks.Nodup → (∀ k ∈ ks, k ∈ l) → ks.length ≤ l.length := by
    intro ks
    induction ks with
    | nil => intro l _ _; exact Nat.zero_le _
    | cons k ks ih =>
      intro l nd m
      have hk := m k List.mem_cons_self
      have e := List.length_erase_of_mem hk
      have p := List.length_pos_of_mem hk
      have := ih (l := l.erase k) (List.nodup_cons.mp nd).2 fun y hy => (List.mem_erase_of_ne (fun z => by rw [z] at hy; exact (List.nodup_cons.mp nd).1 hy)).mpr (m y (List.mem_cons_of_mem _ hy))
      rw [List.length_cons]
      omega
  intro ks nd m
  have := sub nd m
  omega
theorem setR_few {w : World} {h : Heap} {a : Addr} {f : Int → Bool} {c : Nat} {ns : List Int} (few : FewI ns) (r : SetR w h a f c) (m : ∀ k, f k = true → k ∈ ns) : c + 1 < scanBound := by
  obtain ⟨o, es, ep, t, ho, hex, hd, g, nd, hm, hb, hf, hn, hr, hl⟩ := r
  have := few (es.toList.map keyOf) nd fun k hk => m k ((hm k).mpr hk)
  rw [List.length_map, Array.length_toList, hn] at this
  exact this
section
variable {P : Program} {w : World} {A : Around} {E : Value → Shared → Prop} {s : Shared}
/-- the loop of set(..) over numbers -/
theorem set_turns {J : Addr} {fr wr : List Addr} {G : Array GenState → Array GenState → Prop} {m : Nat} {Pv : Nat → Value → Prop} {St : Nat → Shared → Prop} {R : Result → Shared → Prop}
    (wk : WalksS P w A.in1 J fr wr G m Pv St) (D : Addr) (off : D ∉ fr) (ns : List Int) (few : FewI ns) (len : m = ns.length) (val : ∀ i v, Pv i v → ∃ z t, ns[i]? = some z ∧ v = .int z t) :
    ∀ (r i : Nat) (s : Shared), m - i = r → i ≤ m → St i s → (∃ c, SetR w s.heap D (fun z => decide (z ∈ ns.take i)) c) →
      (∀ s2 c, Moved (D :: wr) G s s2 → c + 1 < scanBound → SetR w s2.heap D (fun z => decide (z ∈ ns)) c → R (.ok (.ret .none)) s2) →
      codeAny (model P w) A (.builtin "set.update.loop" ⟨[.ref D, .ref J], []⟩) R s := by
  have offW : D ∉ wr := fun z => off (wk.sub _ z)
  have more : ∀ b ∈ wr, b ∈ D :: wr := fun b z => List.mem_cons_of_mem _ z
  intro r
  induction r with
  | zero =>
    rintro i s e1 le st ⟨c, rc⟩ out
    obtain rfl : i = m := by omega
    refine codeAny_builtin F.entry_set_update_loop ?_
    rw [Around.under_plainId F.plain_set_update_loop _]
    show wpAny _ A.in1 (pyNext (.ref J) >>= _) _ _ s
    refine wpAny_bind (wk.done s _ _ st fun s2 mv => ?_)
    rw [List.take_of_length_le (Nat.le_of_eq len.symm)] at rc
    exact wpAny_pure (out s2 c (mv.mono more) (setR_few few rc fun z q => of_decide_eq_true q) (rc.at fun o q => mv.heap D o offW q))
  | succ r ih =>
    rintro i s e1 le st ⟨c, rc⟩ out
    have lt : i < m := by omega
    refine codeAny_builtin F.entry_set_update_loop ?_
    rw [Around.under_plainId F.plain_set_update_loop _]
    show wpAny _ A.in1 (pyNext (.ref J) >>= _) _ _ s
    refine wpAny_bind (wk.item i s _ _ lt st fun v s1 pv st1 mv => ?_)
    obtain ⟨z, t, at1, rfl⟩ := val i v pv
    have r1 : SetR w s1.heap D (fun j => decide (j ∈ ns.take i)) c := rc.at fun o q => mv.heap D o offW q
    have room := setR_few few r1 fun k q => List.mem_of_mem_take (of_decide_eq_true q)
    show wpAny _ A.in1 (holding [Value.int z t] (setAdd D (.int z t)) >>= _) _ _ s1
    refine wpAny_bind (wpAny_holding ?_)
    unfold setAdd
    refine wpAny_holding (wpAny_bind ((intKind P w).pyHash (k := z) (intKind_is _ _ _ _) ?_))
    refine setR_add_hashed (s := { s1 with toks := s1.toks + 1 }) r1 room fun h2 but r2 => ?_
    have r3 : SetR w h2 D (fun j => decide (j ∈ ns.take (i + 1))) (if decide (z ∈ ns.take i) = true then c else c + 1) := r2.congr fun j => by
      simp [List.take_add_one, at1, List.mem_append]
    refine wpAny_pure ⟨plainId_quiet F.plain_set_update_loop _, ih (i + 1) _ (by omega) lt (wk.frame _ s1 _ _ st1 (Nat.le_succ _) fun b hb o q => ?_) ⟨_, r3⟩ fun s3 c3 mv3 few3 r4 => ?_⟩
    · rw [but.2 b (fun q : b = D => off (by rw [← q]; exact hb))]
      exact q
    · refine out s3 c3 (Moved.trans wk.gtrans ((mv.mono more).then_heap (Nat.le_succ _) fun b o hb q => ?_) mv3) few3 r4
      rw [but.2 b (fun z : b = D => hb (by rw [z]; exact List.mem_cons_self))]
      exact q
set_option maxHeartbeats 3200000 in
theorem call_setLI {l : Addr} {items : Array Value} (ns : List Int) {Q : Value → Shared → Prop} (hh : A.handled = none) (hl : s.heap.IsList l items) (hit : IntsAre items.toList ns) (hb : FewI ns)
    (k : ∀ (h' : Heap) (tk c : Nat), SetR w h' s.heap.objs.size (fun j => decide (j ∈ ns)) c → c + 1 < scanBound → (∀ b o, s.heap.get? b = some o → h'.get? b = some o) → Q (.ref s.heap.objs.size) { s with heap := h', toks := tk }) :
    wpAny (model P w) A (call (.type "set") [.ref l]) Q E s := by
  have hisz : items.size = ns.length := by
    have q := IntsAre.length hit
    rw [Array.length_toList] at q
    exact q
  obtain ⟨c, tl, hmro⟩ := F.called_set.mro
  have hmade := F.called_set.made
  have hsub := F.called_set.sub
  refine wpAny_call (codeAny_of_tree (wpAny_pure (a := _) ⟨Code.quiet_builtin _ (by decide +kernel), codeAny_builtin F.entry_type_call ?_⟩))
  rw [Around.under_plain (weight_type_call_type "set" [.ref l] []) rfl]
  have h1 := F.called_set.notType
  have h2 := F.called_set.canCreate
  have hct := F.typeCall_set_1 (.ref l)
  repeat (any_goals (first | assumption | wp_step))
  refine codeAny_mono (code_set_led1 (.ref l) (E := E) (Q₁ := fun v s1 => v = .ref s.heap.objs.size ∧ s1 = { s with heap := s.heap.push (sO w) }) ⟨rfl, rfl⟩) fun r s1 hr => ?_
  match r, hr with
  | .error e, hr => exact hr
  | .ok (.ret v), hr =>
    obtain ⟨rfl, rfl⟩ := hr
    have new : (s.heap.push (sO w)).get? s.heap.objs.size = some (sO w) := Heap.get?_push_size _ rfl
    have hT : Shared.TypeIs { s with heap := s.heap.push (sO w) } (.ref s.heap.objs.size) "set" := ⟨_, new, rfl⟩
    have hli := F.called_set.init.lookup
    have hbi := F.called_set.init.bind (.ref s.heap.objs.size)
    repeat (any_goals (first | assumption | wp_step))
    refine codeAny_mono (codeAny_call_builtin (R := wants (fun r s2 => r = .none ∧ ∃ h' tk c, s2 = { s with heap := h', toks := tk } ∧ SetR w h' s.heap.objs.size (fun j => decide (j ∈ ns)) c ∧ c + 1 < scanBound ∧
      (∀ b o, s.heap.get? b = some o → h'.get? b = some o)) E) F.called_set.init.plain F.entry_set_init (check_set_init_1 hT ?_)) fun r2 s2 hr2 => ?_
    · obtain ⟨ol, hol, hcl, nl, hdl⟩ := hl
      obtain ⟨ocls, odict, odata, oslots⟩ := ol
      dsimp only at hcl hdl
      subst hcl hdl
      have hol2 : (s.heap.push (sO w)).get? l = some { cls := .type "list", dict := odict, data := .seq items nl, slots := oslots } := Heap.get?_push_of_some _ hol
      have y1 := F.sub_list_set
      have y2 := F.sub_list_frozenset
      have y3 : (Value.type "list" == Value.type "dict") = false := by decide
      have hl1 : (s.heap.push (sO w)).IsList l items := ⟨_, hol2, rfl, nl, rfl⟩
      unfold Builtin.«set.__init__» noKeywords Builtin.Frozenset.updateFrom
      generalize hPI : pyIter = PI
      wp_walk
      subst hPI
      refine wpAny_pyIter_list hl1 (wpAny_bind (wpAny_runValue ?_))
      have ll : l < s.heap.objs.size := Heap.lt_size hol
      have sz : (s.heap.push (sO w)).objs.size = s.heap.objs.size + 1 := Heap.size_push ..
      have ne1 : l ≠ (s.heap.push (sO w)).objs.size := Nat.ne_of_lt (by rw [sz]; exact Nat.lt_succ_of_lt ll)
      have ne2 : s.heap.objs.size ∉ [(s.heap.push (sO w)).objs.size, l] := by
        simp only [List.mem_cons, List.not_mem_nil, or_false, not_or]
        exact ⟨Nat.ne_of_lt (by rw [sz]; exact Nat.lt_succ_self _), Nat.ne_of_gt ll⟩
      have hval : ∀ (i : Nat) (v : Value), items[i]? = some v → ∃ k t, ns[i]? = some k ∧ v = .int k t := fun i v hv => by
        have hi : i < ns.length := by rw [← hisz]; exact (Array.getElem?_eq_some_iff.mp hv).1
        obtain ⟨t, e⟩ := PyProof.Rows.IntsAre.int_at hit i v (by rw [Array.getElem?_toList]; exact hv)
        refine ⟨ns[i], t, List.getElem?_eq_getElem hi, ?_⟩
        rw [e, List.getD_eq_getElem?_getD, List.getElem?_eq_getElem hi] <;> rfl
      refine set_turns ((Walks.list (by simp [hh]) _ l ne1 items).toS) s.heap.objs.size ne2 ns hb hisz hval (items.size - 0) 0 _ (by omega) (Nat.zero_le _) ⟨⟨_, Heap.get?_push_size _ rfl, rfl, rfl⟩, hl1.push _⟩
        ⟨0, setR_new_at (Heap.get?_push_of_some _ new)⟩ fun s' c' mv hc' T => ?_
      obtain ⟨h', g2, d', tk', os'⟩ := s'
      obtain rfl : g2 = s.gens := mv.gens
      obtain rfl : d' = s.drawn := mv.drawn
      obtain rfl : os' = s.os := mv.os
      show wpAny _ _ _ _ _ _
      refine wpAny_pure ?_
      show wpAny _ _ (ret Value.none) _ _ _
      refine wpAny_pure ⟨rfl, h', tk', c', rfl, T, hc', fun b o e => ?_⟩
      have lb : b < s.heap.objs.size := Heap.lt_size e
      refine mv.heap b o ?_ (Heap.get?_push_of_some _ (Heap.get?_push_of_some _ e))
      simp only [List.mem_cons, List.not_mem_nil, or_false, not_or]
      exact ⟨Nat.ne_of_lt lb, Nat.ne_of_lt (by rw [sz]; exact Nat.lt_succ_of_lt lb)⟩
    · match r2, hr2 with
      | .error e, hr2 => exact hr2
      | .ok (.ret r), hr2 =>
        obtain ⟨rfl, h', tk, c', rfl, T, hc', kp⟩ := hr2
        repeat (any_goals (first | assumption | wp_step))
        exact k _ _ _ T hc' kp
      | .ok .next, hr2 => exact hr2.elim
      | .ok .brk, hr2 => exact hr2.elim
      | .ok .cont, hr2 => exact hr2.elim
  | .ok .next, hr => exact hr.elim
  | .ok .brk, hr => exact hr.elim
  | .ok .cont, hr => exact hr.elim
/-- sorted(a set of numbers), any number of them -/
theorem sorted_setI {a : Addr} {S : Int → Bool} {n : Nat} {Q : Value → Shared → Prop} (R : SetR w s.heap a S n) (hh : A.handled = none) (hz : n ≤ sizeLine)
    (hQ : ∀ s' p (out : Array Value) (c : Nat) (ns : List Int), (∀ b o, s.heap.get? b = some o → s'.heap.get? b = some o) → s'.gens = s.gens → s'.os = s.os → s.heap.objs.size ≤ p →
      s'.heap.get? p = some (seqObj "list" out c) → IntsAre out.toList ns → ns.Pairwise (· < ·) → (∀ k, k ∈ ns ↔ S k = true) → ns.length = n → Q (.ref p) s') :
    wpAny (model P w) A (call (.builtin "sorted") [.ref a]) Q E s := by
  obtain ⟨o, es, ep, t, ho, hex, hd, g, nd, hm, hb, hf, hn, hr, hl⟩ := R
  refine Calls.call_function_entry kind_sorted plain_sorted entry_sorted (args_sorted1 _) ?_
  unfold Builtin.«sorted»
  refine wpAny_bind (m := checkCount "sorted" 1 1 _) (wpAny_pure ?_)
  refine wpAny_bind (collect_set (A := A.in1) hh ⟨o, ho, hex.1, hd⟩ hf hb hr hl fun s1 vs k1 hz1 g1 o1 pm => ?_)
  have hvl : vs.length = n := by rw [pm.length_eq, List.length_map, Array.length_toList]; exact hn
  have hI : IntsAre vs (vs.map Builtin.Re.reRawOf) := ints_of vs fun v hv => by
    obtain ⟨e, he, q⟩ := List.mem_map.mp (pm.mem_iff.mp hv)
    obtain ⟨k, tk, h1, _⟩ := g e he
    exact ⟨k, tk, by rw [← q]; exact h1⟩
  have pk : (vs.map Builtin.Re.reRawOf).Perm (es.toList.map keyOf) := by
    have q := pm.map Builtin.Re.reRawOf
    rw [List.map_map] at q
    exact q
  refine wpAny_bind (wpAny_newList ?_ (by rw [hvl]; exact hz))
  have hoL : (s1.heap.push (seqObj "list" vs.toArray 0)).get? s1.heap.objs.size = some (seqObj "list" vs.toArray 0) := Heap.get?_push_size _ rfl
  refine wpAny_bind (wpAny_holding (wpAny_call_entry slot_list_sort ⟨_, hoL, rfl⟩ entry_list_sort (SrtO.list_sort_ord SrtO.swo_int hoL (by rw [hvl]; exact hz) (fun h2 => SrtO.ints_sortable hI h2) fun out hs hb => ⟨_, rfl, ?_⟩) (args_list_sort _)))
  obtain ⟨a1, a2, a3⟩ := SrtO.ints_out hI hs hb
  obtain ⟨c, hc⟩ := sortedHeap_at (vs := vs) (out := out.toArray) hoL
  have pn : (out.map SrtO.iv).Perm (es.toList.map keyOf) := a2.trans pk
  refine wpAny_pure ⟨_, rfl, hQ _ s1.heap.objs.size out.toArray c (out.map SrtO.iv) (fun b u e => ?_) g1 o1 hz1 hc a1 (lt_of_le_nodup _ a3 (pn.nodup_iff.mpr nd)) (fun k => by rw [pn.mem_iff, ← hm k]) ?_⟩
  · have q := k1 b u e
    have hlt := Heap.lt_size q
    show (sortedHeap (s1.heap.push (seqObj "list" vs.toArray 0)) s1.heap.objs.size vs out.toArray).get? b = some u
    rw [sortedHeap_old (Nat.ne_of_lt hlt) (by rw [size_push']; exact Nat.lt_succ_of_lt hlt)]
    exact Heap.get?_push_of_some _ q
  · rw [pn.length_eq, List.length_map, Array.length_toList]; exact hn
end
section
variable {X : Cx} {Y : KJ X.K}
def rSetI (K : PySem.W.Frag) (w : World) : List V → Hp → VK → Prop := fun vs H Q => ∃ (l : Addr) (ns : List Int), vs = [V.ref l] ∧ SqL K H l (ns.map V.int) ∧ FewI ns ∧
  ∀ p c, H p = none → c + 1 < scanBound → Q (.ref p) (upd H p (SetO w p (fun j => decide (j ∈ ns)) c))
theorem cr_setI (hc : X.calm = true) : CallR X (.type "set") (rSetI X.K X.w) := by
  intro pins s σ H vs us Q I r h
  obtain ⟨l, ns, rfl, hl, hb, q⟩ := h
  obtain ⟨its, rv, pl, _⟩ := I.list hl
  rw [Vals.ref1 r]
  refine call_setLI ns (I.ok.hd hc) pl.isList (by simpa using rv.ints) hb fun h' tk c T hc' keep => ?_
  exact ⟨.ref _, upd H s.heap.objs.size (SetO X.w s.heap.objs.size (fun j => decide (j ∈ ns)) c), I.laid (t' := tk) keep (Nat.le_refl _) (setO_new T), rfl, q _ c (I.hok.fresh (Nat.le_refl _)) hc'⟩
def rSortSI (w : World) : List V → Hp → VK → Prop := fun vs H Q => ∃ (a : Addr) (S : Int → Bool) (n : Nat), vs = [V.ref a] ∧ H a = some (SetO w a S n) ∧ n ≤ sizeLine ∧
  ∀ (ns : List Int) (p : Addr), ns.Pairwise (· < ·) → (∀ k : Int, k ∈ ns ↔ S k = true) → H p = none → Q (.ref p) (upd H p (.lst (ns.map V.int)))
theorem cr_sortSI (hc : X.calm = true) : CallR X (.builtin "sorted") (rSortSI X.w) := by
  intro pins s σ H vs us Q I r h
  obtain ⟨a, S, n, rfl, ha, hz, q⟩ := h
  have R := setO_get I ha
  rw [Vals.ref1 r]
  refine sorted_setI R (I.ok.hd hc) hz fun s' p out c ns k g o hp hg hi hs hm hl => ?_
  have hlen : (ns.map V.int).length ≤ sizeLine := by rw [List.length_map, hl]; exact hz
  have hn : H p = none := I.hok.fresh hp
  have J : Inv X pins σ (upd H p (.lst (ns.map V.int))) { s with heap := s'.heap, gens := s'.gens, drawn := s'.drawn, toks := s'.toks } :=
    I.call (ch := []) (Un.laid k hp hn) (I.hok.laid k hp ⟨hlen, out.toList, c, vals_of_ints hi, hg⟩) (by rw [g]; exact I.bare) (fun _ z => nomatch z)
  have e : s' = { s with heap := s'.heap, gens := s'.gens, drawn := s'.drawn, toks := s'.toks } := by
    cases s'
    cases s
    cases o
    rfl
  rw [e]
  exact ⟨.ref p, _, J, rfl, q ns p hs hm hn⟩
/-- sorted(a dict whose keys are numbers), any number of them -/
theorem cr_sortDI (hcalm : X.calm = true) : CallR X (.builtin "sorted") (fun xs H Q => ∃ (a : Addr) (kvs : List (Key × V)) (ks : List Int), xs = [.ref a] ∧ Rd H a (.dK kvs) ∧ kvs.map (·.1) = ks.map Sum.inl ∧
    ∀ (ys : List Int) (p : Addr), ys.Perm ks → ys.Pairwise (· ≤ ·) → H p = none → Q (.ref p) (upd H p (.lst (ys.map V.int)))) := by
  intro pins s σ H xs us Q I r q
  obtain ⟨a, kvs, ks, ex, hd, hks, q⟩ := q
  subst ex
  obtain ⟨u, eu, rx⟩ := vals1 r
  subst eu
  cases rx
  obtain ⟨z, lo, vs, rel, dd⟩ := dk_rd I.hok hd
  obtain ⟨ep, hat⟩ := dd.dictAt
  have hkeys : vs.map (·.1) = ks.map Sum.inl := rel.keys.symm.trans hks
  have hl : vs.length = ks.length := by
    have e := congrArg List.length hkeys
    rw [List.length_map, List.length_map] at e
    exact e
  have h16 : vs.length ≤ sizeLine := by rw [← rel.length]; exact z
  refine Calls.call_function_entry PyProof.Rows.kind_sorted PyProof.Rows.plain_sorted PyProof.Rows.entry_sorted (PyProof.Rows.args_sorted1 _) ?_
  unfold Builtin.«sorted»
  refine wpAny_bind (m := checkCount "sorted" 1 1 _) (wpAny_pure ?_)
  refine wpAny_bind (PySem.W.kdu_collect (A := X.A.in1) (PySem.W.kdl_dict (knd := mixKind X.prog X.w) (kvs := vs) (ep := ep) lo) (I.ok.hd hcalm) hat h16 fun h' tk acc hk hacc => ?_)
  have hal : acc.toList.length = ks.length := by rw [Array.length_toList, hacc.1, hl]
  have hS : IntsAre acc.toList ks := ints_each hal fun j v e => by
    obtain ⟨k, x, e1, e2⟩ := hacc.2 j v (by rw [← Array.getElem?_toList]; exact e)
    have e3 : (vs.map (·.1))[j]? = some k := by rw [List.getElem?_map, e1]; rfl
    rw [hkeys, List.getElem?_map] at e3
    cases e4 : ks[j]? with
    | none => rw [e4] at e3; cases e3
    | some y =>
      rw [e4] at e3
      have e5 : Sum.inl y = k := Option.some.inj e3
      subst e5
      rcases keyIs_shape (show keyIs (Sum.inl y) v = true from e2) with ⟨i, t, ek, ev⟩ | ⟨z, t, ek, ev⟩
      · cases ek
        exact ⟨y, t, rfl, ev⟩
      · cases ek
  have I1 : Inv X pins σ H { s with heap := h', toks := tk } := I.kept hk
  have hz2 : acc.toList.length ≤ sizeLine := by rw [hal, ← hl]; exact h16
  refine wpAny_bind (wpAny_newList ?_ hz2)
  have hoL : (h'.push (seqObj "list" acc.toList.toArray 0)).get? h'.objs.size = some (seqObj "list" acc.toList.toArray 0) := Heap.get?_push_size _ rfl
  show wpAny _ _ _ _ _ { s with heap := h'.push (seqObj "list" acc.toList.toArray 0), toks := tk }
  refine wpAny_bind (wpAny_holding (wpAny_call_entry PyProof.Rows.slot_list_sort ⟨_, hoL, rfl⟩ PyProof.Rows.entry_list_sort
    (SrtO.list_sort_ord (s := { s with heap := h'.push (seqObj "list" acc.toList.toArray 0), toks := tk }) SrtO.swo_int hoL hz2 (fun h2 => SrtO.ints_sortable hS h2) fun out hs hb => ⟨_, rfl, ?_⟩) (PyProof.Rows.args_list_sort _)))
  obtain ⟨g1, g2, g3⟩ := SrtO.ints_out hS hs hb
  obtain ⟨e', he'⟩ := PyProof.Rows.sortedHeap_at (vs := acc.toList) (out := out.toArray) hoL
  have hlen : ((out.map SrtO.iv).map V.int).length ≤ sizeLine := by
    rw [List.length_map, g2.length_eq, ← hl]
    exact h16
  refine wpAny_pure ⟨_, rfl, .ref h'.objs.size, upd H h'.objs.size (.lst ((out.map SrtO.iv).map V.int)), I1.laid (t' := tk) (fun b u e => ?_) (Nat.le_refl _)
    (show ObjOk X.prog X.w _ _ _ (.lst ((out.map SrtO.iv).map V.int)) from ⟨hlen, out, e', vals_of_ints g1, by simpa using he'⟩), rfl, q _ _ g2 g3 (I1.hok.fresh (Nat.le_refl _))⟩
  have hb : b < h'.objs.size := Heap.lt_size e
  rw [PyProof.Rows.sortedHeap_old (Nat.ne_of_lt hb) (by rw [size_push']; exact Nat.lt_succ_of_lt hb)]
  exact Heap.get?_push_of_some _ e
end
end DL

set_option maxHeartbeats 4000000
/-! DX8b: dicts that change; sorted of them, of sets and lists of numbers; a comprehension; update; get with a default. -/
namespace DL
open PySem PySem.Spec L2
open PyProof.Rows hiding St

/-! ### entries -/
section
variable {κ α : Type} [DecidableEq κ]
def putKD (kvs : List (κ × α)) (k : κ) (v : α) : List (κ × α) :=
  if (kvs.any fun kv => decide (kv.1 = k)) = true then kvs.map (fun kv => if kv.1 = k then (kv.1, v) else kv) else kvs ++ [(k, v)]
def valKD (kvs : List (κ × α)) (k : κ) : Option α := (kvs.find? fun kv => decide (kv.1 = k)).map (·.2)
def mergeKD (kvs more : List (κ × α)) : List (κ × α) := more.foldl (fun acc kv => putKD acc kv.1 kv.2) kvs
theorem putKD_len (kvs : List (κ × α)) (k : κ) (v : α) : (putKD kvs k v).length ≤ kvs.length + 1 := by
  unfold putKD
  split
  · rw [List.length_map]; omega
  · rw [List.length_append]; simp
end
section
variable {K : PySem.W.Frag} {F : Hp}
theorem RpKs.any (k : Int ⊕ Str) : ∀ {vs : List ((Int ⊕ Str) × V)} {ds : List ((Int ⊕ Str) × D)}, RpKs K F vs ds → (vs.any fun kv => decide (kv.1 = k)) = ds.any fun kv => decide (kv.1 = k)
  | _, _, .nil => rfl
  | _, _, .cons _ t => by rw [List.any_cons, List.any_cons, RpKs.any k t]
theorem RpKs.app : ∀ {vs ws : List ((Int ⊕ Str) × V)} {ds es : List ((Int ⊕ Str) × D)}, RpKs K F vs ds → RpKs K F ws es → RpKs K F (vs ++ ws) (ds ++ es)
  | _, _, _, _, .nil, s => s
  | _, _, _, _, .cons h t, s => .cons h (RpKs.app t s)
theorem RpKs.repl {k : Int ⊕ Str} {v : V} {d : DL.D} (r : Rp K F v d) : ∀ {vs : List ((Int ⊕ Str) × V)} {ds : List ((Int ⊕ Str) × DL.D)}, RpKs K F vs ds → RpKs K F (vs.map fun kv => if kv.1 = k then (kv.1, v) else kv) (ds.map fun kv => if kv.1 = k then (kv.1, d) else kv)
  | _, _, .nil => .nil
  | (x, _) :: _, (_, _) :: _, .cons a t => by
    rw [List.map_cons, List.map_cons]
    by_cases e : x = k
    · simp only [e, if_true]; exact .cons r (RpKs.repl r t)
    · simp only [e, if_false]; exact .cons a (RpKs.repl r t)
theorem RpKs.put {k : Int ⊕ Str} {v : V} {d : DL.D} (r : Rp K F v d) {vs : List ((Int ⊕ Str) × V)} {ds : List ((Int ⊕ Str) × DL.D)} (h : RpKs K F vs ds) : RpKs K F (putK vs k v) (putKD ds k d) := by
  unfold putK putKD
  rw [h.any k]
  split
  · exact h.repl r
  · exact h.app (.cons r .nil)
theorem RpKs.merge {more : List ((Int ⊕ Str) × V)} {em : List ((Int ⊕ Str) × DL.D)} (hm : RpKs K F more em) : ∀ {vs : List ((Int ⊕ Str) × V)} {ds : List ((Int ⊕ Str) × DL.D)}, RpKs K F vs ds → RpKs K F (mergeK vs more) (mergeKD ds em) := by
  induction hm with
  | nil => exact fun h => h
  | cons r t ih => exact fun h => ih (h.put r)
theorem RpKs.val (k : Int ⊕ Str) : ∀ {vs : List ((Int ⊕ Str) × V)} {ds : List ((Int ⊕ Str) × DL.D)}, RpKs K F vs ds → (valKD ds k = none ∧ valV vs k = none) ∨ ∃ d v, valKD ds k = some d ∧ valV vs k = some v ∧ Rp K F v d
  | _, _, .nil => .inl ⟨rfl, rfl⟩
  | (x, v) :: vs, (_, d) :: ds, .cons a t => by
    by_cases e : x = k
    · exact .inr ⟨d, v, by unfold valKD; simp [List.find?_cons, e], valV_pos e, a⟩
    · rcases RpKs.val k t with ⟨h1, h2⟩ | ⟨d', v', h1, h2, h3⟩
      · exact .inl ⟨by unfold valKD at h1 ⊢; simpa [List.find?_cons, e] using h1, (valV_neg e).trans h2⟩
      · exact .inr ⟨d', v', by unfold valKD at h1 ⊢; simpa [List.find?_cons, e] using h1, (valV_neg e).trans h2, h3⟩
/-- the key that a value is -/
def keyD : DL.D → Option (Int ⊕ Str)
  | .int i => some (.inl i)
  | .str x => some (.inr x)
  | _ => none
theorem keyD_rp {v : V} {d : DL.D} {k : Int ⊕ Str} (r : Rp K F v d) (h : keyD d = some k) : v = kV k := by
  cases r <;> cases h <;> rfl
/-- entries over values, as keys beside values -/
theorem RpKs.zip : ∀ {vs : List ((Int ⊕ Str) × V)} {ds : List ((Int ⊕ Str) × DL.D)}, RpKs K F vs ds → vs = (ds.map (·.1)).zip (vs.map (·.2)) ∧ (ds.map (·.1)).length = (vs.map (·.2)).length ∧ RpAll K F (vs.map (·.2)) (ds.map (·.2))
  | _, _, .nil => ⟨rfl, rfl, .nil⟩
  | _, _, .cons r t => by
    obtain ⟨h1, h2, h3⟩ := RpKs.zip t
    refine ⟨?_, ?_, .cons r h3⟩
    · rw [List.map_cons, List.map_cons, List.zip_cons_cons, ← h1]
    · rw [List.map_cons, List.map_cons, List.length_cons, List.length_cons, h2]
theorem RpAll.zip : ∀ {ks : List (Int ⊕ Str)} {vs : List V} {ds : List DL.D}, ks.length = vs.length → RpAll K F vs ds → RpKs K F (ks.zip vs) (ks.zip ds)
  | [], [], _, _, .nil => .nil
  | k :: ks, _ :: _, _, h, .cons r t => .cons r (RpAll.zip (by simpa using h) t)
  | [], _ :: _, _, h, _ => by simp at h
  | _ :: _, [], _, h, _ => by simp at h
end
/-! ### a dict that changes -/
def dDictN : DTE := fun _ M Q => ∀ a, M a = none → Q (.ref a) (mu M a (.dic []))
/-- o[k] = v, o such a dict -/
def rSetKD : DTSet := fun o i v M Q => ∃ a kvs k, o = .ref a ∧ keyD i = some k ∧ M a = some (.dic kvs) ∧ kvs.length < sizeLine ∧ Q (mu M a (.dic (putKD kvs k v)))
/-- k in o, k not in o -/
def rInDm (neg : Bool) : RD2 := fun x y M Q => ∃ a kvs k, y = .ref a ∧ keyD x = some k ∧ M a = some (.dic kvs) ∧ Q (.bl (if neg = true then !(valKD kvs k).isSome else (valKD kvs k).isSome)) M
section
variable {X : Cx} {Y : KJ X.K} {pos p apos cpos : Pos} {a b o e : Expr} {t u to te : DTE}
theorem de_dictN : DE X Y (.Dict [] [] pos) dDictN := by
  refine PE.weak pe_dnewK ?_
  rintro σ H Q0 ⟨F, M, ρ, Q, rs, rl, q, k⟩
  intro p hp
  exact k _ _ F _ _ (rl.newM hp (o := .dK []) (m := .dic []) .nil) (.ref p) (q p (rl.mnone hp))
theorem set_dicD {n : Nat} (hr : Room n X.A) : PSet X (canSet Y rSetKD) := by
  have hu := hr.units
  refine PSet.weak (set_dict (by omega)) ?_
  rintro o i v H Q0 ⟨F, M, od, id, vd, Q, r1, r2, r3, rl, ⟨a, kvs, k, e1, e2, hm, hz, q⟩, kk⟩
  subst e1
  cases r1
  obtain ⟨vs, h1, rk⟩ := rl.dic hm
  rw [keyD_rp r2 e2]
  refine ⟨a, _, rfl, DPut.k h1 (by rw [rk.length]; exact hz), ?_⟩
  exact kk F _ _ (rl.setD hm h1 (rk.put r3)) q
theorem can_inM {neg : Bool} {σ : St} {H : Hp} {Q0 : VK} (q : canE Y (dOp (rInDm neg) t u) σ H Q0) : canE Y t σ H fun y H1 => canE Y u σ H1 fun x H2 => ∃ a o, x = .ref a ∧ DGet H2 a y o ∧ Q0 (.bl (if neg = true then !o.isSome else o.isSome)) H2 := by
  obtain ⟨F, M, ρ, Q, rs, rl, q, k⟩ := q
  refine ⟨F, M, ρ, _, rs, rl, q, fun y d F1 M1 H1 s1 rp1 q1 => ?_⟩
  refine ⟨F1, M1, ρ, _, rs.mono s1.same, s1.rel, q1, fun x e F2 M2 H2 s2 rp2 ⟨a, kvs, k0, e1, e2, hm, q2⟩ => ?_⟩
  subst e1
  cases rp2
  obtain ⟨vs, h1, rk⟩ := s2.rel.dic hm
  rw [keyD_rp rp1 e2]
  refine ⟨a, _, rfl, DGet.k h1, ?_⟩
  have k1 := k _ _ F2 M2 H2 (s1.trans s2) (.bl _) q2
  rcases rk.val k0 with ⟨g1, g2⟩ | ⟨d', v', g1, g2, g3⟩
  · rw [g1] at k1; rw [g2]; exact k1
  · rw [g1] at k1; rw [g2]; exact k1
theorem dt_cmpM {n : Nat} (hr : Room n X.A) (ha : DE X Y a t) (hb : DE X Y b u) (hm : behindInMarks .In b = false) : DT X Y (.Compare a [.In] [b] pos) (dB (dOp (rInDm false) t u)) := by
  have hu := hr.units
  refine PT.weak (pt_cmp (pc_din (by omega) ha hb) hm) ?_
  rintro σ H Q0 ⟨F, M, ρ, Q, rs, rl, q, k⟩
  refine can_inM (neg := false) (Q0 := fun x H1 => ∃ c, x = V.bl c ∧ Q0 c H1) ⟨F, M, ρ, _, rs, rl, q, fun v d F1 M1 H1 s1 rp ⟨c, e, q1⟩ => ?_⟩
  subst e
  cases rp
  exact ⟨c, rfl, k c F1 M1 H1 s1 q1⟩
theorem dt_cmpMN {n : Nat} (hr : Room n X.A) (ha : DE X Y a t) (hb : DE X Y b u) (hm : behindInMarks .NotIn b = false) : DT X Y (.Compare a [.NotIn] [b] pos) (dB (dOp (rInDm true) t u)) := by
  have hu := hr.units
  refine PT.weak (pt_cmp (pc_dnotin (by omega) ha hb) hm) ?_
  rintro σ H Q0 ⟨F, M, ρ, Q, rs, rl, q, k⟩
  refine can_inM (neg := true) (Q0 := fun x H1 => ∃ c, x = V.bl c ∧ Q0 c H1) ⟨F, M, ρ, _, rs, rl, q, fun v d F1 M1 H1 s1 rp ⟨c, e, q1⟩ => ?_⟩
  subst e
  cases rp
  exact ⟨c, rfl, k c F1 M1 H1 s1 q1⟩
/-! ### sorted, numbers, any number of them -/
def rSortI (fz : Bool) : RDL := fun ds M Q => ∃ (d : DL.D) (ns : List Int), ds = [d] ∧ lstOf M d = some (ns.map DL.D.int) ∧ ∀ ms : List Int, ms.Perm ns → ms.Pairwise (· ≤ ·) → newL fz (ms.map DL.D.int) M Q
theorem of_intsR {K : PySem.W.Frag} {F : Hp} : ∀ ns : List Int, RpAll K F (ns.map V.int) (ns.map DL.D.int)
  | [] => .nil
  | n :: ns => .cons (.int n) (of_intsR ns)
theorem rp_intsR {K : PySem.W.Frag} {F : Hp} : ∀ {vs : List V} {ns : List Int}, RpAll K F vs (ns.map DL.D.int) → vs = ns.map V.int
  | [], [], .nil => rfl
  | v :: vs, n :: ns, .cons h t => by cases h; rw [rp_intsR t]; rfl
theorem cd_sortI (fz : Bool) : CallD X Y (.builtin "sorted") (rSortI fz) := by
  intro pins s σ H vs us Q0 I r ⟨F, M, ds, Q, rp, rl, ⟨d, ns, e, e1, q⟩, k⟩
  subst e
  obtain ⟨v, rfl, r1⟩ := rp1 rp
  obtain ⟨l, ws, rfl, h1, ra⟩ := lstOf_rp rl r1 e1
  rw [rp_intsR ra] at h1
  exact cr_sortedI pins s σ H _ us Q0 I r ⟨l, ns, rfl, h1, fun ms n pm so hn => newL_ok rl (of_intsR ms) (q ms pm so) k n hn⟩
/-- sorted(a dict), its keys numbers -/
def rSortKD (fz : Bool) : RDL := fun ds M Q => ∃ (a : Addr) (kvs : List ((Int ⊕ Str) × DL.D)) (ns : List Int), ds = [.ref a] ∧ M a = some (.dic kvs) ∧ kvs.map (·.1) = ns.map Sum.inl ∧ ∀ ms : List Int, ms.Perm ns → ms.Pairwise (· ≤ ·) → newL fz (ms.map DL.D.int) M Q
theorem cd_sortKD (fz : Bool) (hc : X.calm = true) : CallD X Y (.builtin "sorted") (rSortKD fz) := by
  intro pins s σ H vs us Q0 I r ⟨F, M, ds, Q, rp, rl, ⟨a, kvs, ns, e, e1, e2, q⟩, k⟩
  subst e
  obtain ⟨v, rfl, r1⟩ := rp1 rp
  cases r1
  obtain ⟨ws, h1, rk⟩ := rl.dic e1
  exact cr_sortDI hc pins s σ H _ us Q0 I r ⟨a, ws, ns, rfl, .inl h1, by rw [rk.keys]; exact e2, fun ms n pm so hn => newL_ok rl (of_intsR ms) (q ms pm so) k n hn⟩
/-- sorted(set(a list of numbers)) -/
def dSortSetI (fz : Bool) (t : DTE) : DTE := fun ρ M Q => t ρ M fun d M1 => ∃ ns : List Int, lstOf M1 d = some (ns.map DL.D.int) ∧ FewI ns ∧ ∀ ms : List Int, ms.Pairwise (· < ·) → (∀ k, k ∈ ms ↔ k ∈ ns) → newL fz (ms.map DL.D.int) M1 Q
theorem de_sortSetI {p1 p2 : Pos} (fz : Bool) (m1 : X.mg "sorted" = none) (m2 : X.mg "set" = none) (he : DE X Y e t) (hc : X.calm = true := by rfl) (g1 : Gl X "sorted" := by rfl) (g2 : Gl X "set" := by rfl)
    (na : starEach [e] X.env = (false, eval e X.env) :: starEach [] X.env := by rfl) (nb : (backTo p2 (starEach [] X.env)).any (·.1) = false := by rfl)
    (na2 : starEach [.Call (.Name "set" p1) [e] [] p2] X.env = (false, eval (.Call (.Name "set" p1) [e] [] p2) X.env) :: starEach [] X.env := by rfl) (nb2 : (backTo pos (starEach [] X.env)).any (·.1) = false := by rfl) :
    DE X Y (.Call (.Name "sorted" p) [.Call (.Name "set" p1) [e] [] p2] [] pos) (dSortSetI fz t) := by
  have b1 : bootBuiltins "sorted" = some (.builtin "sorted") := by decide +kernel
  have b2 : bootBuiltins "set" = some (.type "set") := by decide +kernel
  refine PE.weak (pe_callB (cr_sortSI hc) g1 m1 b1 (pa_cons (pe_callTy (cr_setI hc) g2 m2 b2 (pa_cons he pa_nil na) (by decide) (by decide) na nb) pa_nil na2) (by decide) (by decide) na2 nb2) ?_
  rintro σ H Q0 ⟨F, M, ρ, Q, rs, rl, q, k⟩
  refine ⟨F, M, ρ, _, rs, rl, q, fun v d F1 M1 H1 s1 rp ⟨ns, src, few, q1⟩ => ?_⟩
  obtain ⟨l, vs, rfl, h1, ra⟩ := lstOf_rp s1.rel rp src
  rw [rp_intsR ra] at h1
  refine ⟨l, ns, rfl, h1, few, fun p c hp hc' => ?_⟩
  have s2 := s1.rel.newF hp (SetO X.w p (fun j => decide (j ∈ ns)) c) (fun _ z => nomatch z)
  have hz : c ≤ sizeLine := by
    have e1 : scanBound = 4096 := rfl
    have e2 := sizeLine_eq
    omega
  refine ⟨p, _, c, rfl, upd_same, hz, fun ms p' so mem hp' => ?_⟩
  have g := q1 ms so fun k => by rw [mem k]; simp
  exact newL_ok s2.rel (of_intsR ms) g (fun v z F' M' H' s3 => k v z F' M' H' ((s1.trans s2).trans s3)) p' hp'
/-! ### a comprehension of a dict -/
def dcW (g : DTG) (tt : DTT) (tk te : DTE) (G : Mp → Prop) (ρ : Rho) (k : List ((Int ⊕ Str) × DL.D) → Mp → Prop) : List DL.D → List ((Int ⊕ Str) × DL.D) → Mp → Prop
  | [], acc, M => G M ∧ k acc M
  | x :: xs, acc, M => G M ∧ g x ρ M fun ρ2 M2 => tt ρ2 M2 fun b M3 => if b = true then tk ρ2 M3 fun y M4 => te ρ2 M4 fun d M5 => ∃ k0, keyD y = some k0 ∧ acc.length < sizeLine ∧ dcW g tt tk te G ρ k xs (putKD acc k0 d) M5 else dcW g tt tk te G ρ k xs acc M3
def dDc (wi : DTI) (g : DTG) (tt : DTT) (tk te : DTE) (vs : List Nat) : DTE := fun ρ M Q => wi ρ M fun items G M1 => dcW g tt tk te G (dwipe ρ vs) (fun kvs M2 => Q (.dct (kvs.map (·.1)) (kvs.map (·.2))) M2) items [] M1
theorem can_dc {wi : DTI} {g : DTG} {ws : List Nat} {tt : DTT} {tk te : DTE} {vs : List Nat} {σ : St} {H : Hp} {Q0 : VK} (hv : ∀ i ∈ ws, i ∈ vs) (h : canE Y (dDc wi g tt tk te vs) σ H Q0) :
    tDc (canI Y wi) (canG Y g ws) (canT Y tt) (canE Y tk) (canE Y te) vs σ H Q0 := by
  obtain ⟨F, M, ρ, Q, rs, r, q, k⟩ := h
  refine ⟨F, M, ρ, _, rs, r, q, fun J items G F1 M1 H1 s1 jw q1 => ?_⟩
  intro D hD
  have fD : F1 D = none := s1.rel.fnone hD
  have mD : M1 D = none := s1.rel.mnone hD
  let Pv : Nat → Hp → Prop := fun i H' => i ≤ items.length ∧ ∃ F2 M2 acc xs, Stp Y F1 M1 H1 F2 M2 H' ∧ F2 D = none ∧ M2 D = none ∧ H' D = some (.dK xs) ∧ RpKs X.K F2 xs acc ∧ dcW g tt tk te G (dwipe ρ vs) (fun kvs M2 => Q (.dct (kvs.map (·.1)) (kvs.map (·.2))) M2) (items.drop i) acc M2
  have s0 : Stp Y F1 M1 H1 F1 M1 (upd H1 D (.dK [])) := by
    refine Stp.of s1.rel ⟨Same.refl F1, ⟨fun b u z => ?_, fun a m z => ?_, s1.rel.r.nt⟩, fun a o h f m _ => ?_, tabs_new hD _⟩
    · rw [upd_ne (ne_of_none (s1.rel.sub _ _ z) hD)]; exact s1.rel.sub _ _ z
    · obtain ⟨f, o, e, rr⟩ := s1.rel.mt a m z
      exact ⟨f, o, by rw [upd_ne (ne_of_none e hD)]; exact e, rr⟩
    · rw [upd_ne (ne_of_none h hD)]; exact ⟨h, f, m⟩
  refine ⟨fun i m H' => m = items.length - i ∧ Pv i H', ⟨items.length, by simp, Nat.zero_le _, F1, M1, [], [], s0, fD, mD, upd_same, .nil, q1⟩, ?_⟩
  rintro i m H2 ⟨rfl, hi, F2, M2, acc, xs, s2, f2, m2, h2, ra, q2⟩
  by_cases hlt : i < items.length
  · rw [List.drop_eq_getElem_cons hlt] at q2
    obtain ⟨g2, q2⟩ := q2
    have jj := (jw.run F2 M2 H2 s2.same s2.rel g2).2 i items[i] (List.getElem?_eq_getElem hlt)
    refine .inr ⟨jj.1, fun H3 => ∃ m', m' < items.length - i ∧ (m' = items.length - (i + 1) ∧ Pv (i + 1) H3), fun H3 h => h, fun x H3 y => ?_⟩
    obtain ⟨F3, s3, rp⟩ := jj.2 x H3 y
    obtain ⟨h3, f3, m3⟩ := s3.fr D _ h2 f2 m2 (fun _ z => nomatch z)
    have s23 := s2.trans s3
    refine ⟨F3, M2, dwipe ρ vs, items[i], _, rp, ((rs.mono s1.same).mono s23.same).wipe vs, s3.rel, q2, fun σ4 ρ4 F4 M4 H4 s4 rs4 o4 q4 => ?_⟩
    obtain ⟨h4, f4, m4⟩ := s4.fr D _ h3 f3 m3 (fun _ z => nomatch z)
    have s24 := s23.trans s4
    refine ⟨(o4.more hv).wipe.trans wipe_idem, F4, M4, ρ4, _, rs4, s4.rel, q4, fun b F5 M5 H5 s5 q5 => ?_⟩
    obtain ⟨h5, f5, m5⟩ := s5.fr D _ h4 f4 m4 (fun _ z => nomatch z)
    have s25 := s24.trans s5
    cases b with
    | false =>
      refine iteF ?_
      exact ⟨items.length - (i + 1), by omega, rfl, hlt, F5, M5, acc, xs, s25, f5, m5, h5, (((ra.mono s3.same).mono s4.same).mono s5.same), q5⟩
    | true =>
      refine iteT ?_
      refine ⟨F5, M5, ρ4, _, rs4.mono s5.same, s5.rel, q5, fun yv yd F6 M6 H6 s6 rp6 q6 => ?_⟩
      obtain ⟨h6, f6, m6⟩ := s6.fr D _ h5 f5 m5 (fun _ z => nomatch z)
      refine ⟨F6, M6, ρ4, _, (rs4.mono s5.same).mono s6.same, s6.rel, q6, fun v d F7 M7 H7 s7 rp7 ⟨k0, ek, hl, q7⟩ => ?_⟩
      obtain ⟨h7, f7, m7⟩ := s7.fr D _ h6 f6 m6 (fun _ z => nomatch z)
      have s27 := (s25.trans s6).trans s7
      have ra7 : RpKs X.K F7 xs acc := ((((ra.mono s3.same).mono s4.same).mono s5.same).mono s6.same).mono s7.same
      refine ⟨xs, k0, keyD_rp rp6 ek, h7, by rw [ra.length]; exact hl, items.length - (i + 1), by omega, rfl, hlt, F7, M7, putKD acc k0 d, putK xs k0 v, ?_, f7, m7, upd_same, ra7.put rp7, q7⟩
      refine Stp.of s1.rel ⟨s27.same, ⟨fun b u z => ?_, fun a m z => ?_, s7.rel.r.nt⟩, fun a o h f m n => ?_, fun t => tabs_not h7 (fun _ z => nomatch z) (fun _ _ => code_dK) (s27.s.tab t)⟩
      · rw [upd_ne (ne_of_none z f7)]; exact s7.rel.sub _ _ z
      · obtain ⟨f, o, e, rr⟩ := s7.rel.mt a m z
        have ne : a ≠ D := fun e => by subst e; rw [m7] at z; cases z
        exact ⟨f, o, by rw [upd_ne ne]; exact e, rr⟩
      · obtain ⟨h', f', m'⟩ := s27.fr a o h f m n
        rw [upd_ne (ne_of_none h hD)]; exact ⟨h', f', m'⟩
  · have e : i = items.length := by omega
    subst e
    rw [List.drop_length] at q2
    obtain ⟨g2, q2⟩ := q2
    refine .inl ⟨(jw.run F2 M2 H2 s2.same s2.rel g2).1, ?_⟩
    have sn : Same F2 (upd F2 D (.dK xs)) := same_new f2
    obtain ⟨z1, z2, z3⟩ := (ra.mono sn).zip
    refine k (.ref D) _ (upd F2 D (.dK xs)) M2 H2 (s1.trans (Stp.of s1.rel ⟨s2.same.trans sn, ⟨fun b u z => ?_, fun a m z => ?_, fun a ps z => ?_⟩, fun a o h f m n => ?_, s2.s.tab⟩)) (.dct (by rw [← z1]; exact upd_same) z2 z3) q2
    · by_cases e : b = D
      · subst e; rw [upd_same] at z; cases z; exact h2
      · rw [upd_ne e] at z; exact s2.rel.sub _ _ z
    · obtain ⟨f, o, e, rr⟩ := s2.rel.mt a m z
      have ne : a ≠ D := fun e => by subst e; rw [m2] at z; cases z
      exact ⟨by rw [upd_ne ne]; exact f, o, e, rr.mono sn⟩
    · by_cases e : a = D
      · subst e; rw [upd_same] at z; cases z
      · rw [upd_ne e] at z; exact s2.rel.r.nt a ps z
    · obtain ⟨h', f', m'⟩ := s2.fr a o h f m n
      exact ⟨h', by rw [upd_ne (ne_of_none h hD)]; exact f', m'⟩
theorem de_dc {kx vx tg iter : Expr} {ifs : List Expr} {scope : Scope} {own : List (Str × Nat)} {wi : DTI} {g : DTG} {ws : List Nat} {tt : DTT} {tk te : DTE} (hc : X.calm = true) (hN : X.N.Nodup) (hi : DI X Y tg iter wi) (ok : BlkOk X.N X.env.scope scope own) (hv : ∀ i ∈ ws, i ∈ own.map (·.2))
    (hg : ∀ (s : Shared) (H : Hp) (C : Addr) (cl : List (Str × Addr)) (fp : List Addr), DG (X.blk s H scope (compEnvC scope cl C X.env) fp) Y tg g ws) (ht : ∀ (s : Shared) (H : Hp) (C : Addr) (cl : List (Str × Addr)) (fp : List Addr), DTs (X.blk s H scope (compEnvC scope cl C X.env) fp) Y ifs tt)
    (hk : ∀ (s : Shared) (H : Hp) (C : Addr) (cl : List (Str × Addr)) (fp : List Addr), DE (X.blk s H scope (compEnvC scope cl C X.env) fp) Y kx tk)
    (he : ∀ (s : Shared) (H : Hp) (C : Addr) (cl : List (Str × Addr)) (fp : List Addr), DE (X.blk s H scope (compEnvC scope cl C X.env) fp) Y vx te) (hs : ∀ x, foldedSetIterable iter X.env x = pure x := by intro _; rfl) :
    DE X Y (.DictComp kx vx [⟨tg, iter, ifs, 0⟩] scope pos) (dDc wi g tt tk te (own.map (·.2))) :=
  PE.weak (pe_dc hc hN hi ok hg ht hk he hs) fun _ _ _ q => can_dc hv q
/-! ### update -/
def rUpdD : DL.D → List DL.D → Mp → DK → Prop := fun x ds M Q => ∃ a ks xs kvs, x = .ref a ∧ ds = [.dct ks xs] ∧ M a = some (.dic kvs) ∧ kvs.length + ks.length ≤ sizeLine ∧ Q .non (mu M a (.dic (mergeKD kvs (ks.zip xs))))
theorem merge_len : ∀ (more kvs : List ((Int ⊕ Str) × V)), (mergeK kvs more).length ≤ kvs.length + more.length
  | [], kvs => Nat.le_refl _
  | (k, v) :: more, kvs => by
    have h1 := merge_len more (putK kvs k v)
    have h2 := length_putK kvs k v
    show (mergeK (putK kvs k v) more).length ≤ _
    rw [List.length_cons]
    omega
theorem md_update : MtR X "dict.update" (canMt Y rUpdD) := by
  intro pins s σ H x vs v us Q0 I rx rv ⟨F, M, d, ds, Q, r1, r2, rl, ⟨a, ks, xs, kvs, e1, e2, hm, hz, q⟩, k⟩
  subst e1 e2
  cases r1
  obtain ⟨vy, rfl, ry⟩ := rp1 r2
  cases ry with
  | dct at1 len ra =>
    rename_i b ws
    obtain ⟨us1, h1, rk⟩ := rl.dic hm
    have h2 := rl.sub _ _ at1
    cases rx
    obtain ⟨u2, rfl, rv2⟩ := vals1 rv
    cases rv2
    have fa : F a = none := (rl.mt a _ hm).1
    have ne : a ≠ b := fun e => by subst e; rw [at1] at fa; cases fa
    obtain ⟨z1, lo1, kv1, rel1, dd1⟩ := dk_of I.hok h1
    obtain ⟨z2, lo2, kv2, rel2, dd2⟩ := dk_of I.hok h2
    have lz : (ks.zip ws).length = ks.length := by rw [List.length_zip, len]; simp
    have lw : us1.length + (ks.zip ws).length ≤ sizeLine := by rw [rk.length, lz]; exact hz
    refine call_meetsIn PySem.F.slot_dict_update dd1.typeIs PySem.F.entry_dict_update (PySem.F.args_dict_update_2 _ _) (meets_dict_update (mixKind X.prog X.w) a b ne lo2)
      ⟨kv1, kv2, dd1, dd2, by rw [← rel1.length, ← rel2.length]; exact lw, fun h' hm' _ hs => ?_⟩
    have rk2 : RpKs X.K F (ks.zip ws) (ks.zip xs) := RpAll.zip len ra
    have st := rl.setD hm h1 (RpKs.merge rk2 rk)
    have hl : (mergeK us1 (ks.zip ws)).length ≤ sizeLine := Nat.le_trans (merge_len _ _) lw
    have he : ∃ q, h'.get? a = some q := let ⟨q, _, _, hq, _⟩ := hm'; ⟨q, hq⟩
    have J := d_write (t' := s.toks) I (a := a) (ob := .dK (mergeK us1 (ks.zip ws))) (by rw [h1]; exact True.intro) hs he (dk_new hl lo1 (KV.merge rel2 rel1) hm')
    exact ⟨.non, _, J, rfl, k .non .non F _ _ st .non q⟩
end
end DL

set_option maxHeartbeats 4000000
/-! DX9a: update and get as expressions, enumerate over a tuple. -/
namespace DL
open PySem PySem.Spec L2
open PyProof.Rows hiding St

section
variable {X : Cx} {Y : KJ X.K} {pos p apos cpos tpos : Pos} {a b o e f : Expr} {t u to te : DTE} {elts : List Expr} {kk : Nat}
def dUpdate (to te : DTE) : DTE := fun ρ M Q => to ρ M fun x M1 => (∃ a kvs, x = .ref a ∧ M1 a = some (.dic kvs)) ∧ te ρ M1 fun d M2 => rUpdD x [d] M2 Q
theorem de_update (ho : DE X Y o to) (he : DE X Y e te) (hs : starEach [e] X.env = (false, eval e X.env) :: starEach [] X.env := by rfl) (hbase : attributeBase o "update" X.env (eval o X.env) = eval o X.env := by rfl) (hline : (apos.endLine == cpos.line) = true := by rfl)
    (hfew : ((backTo cpos (starEach [e] X.env)).all (fun x => !x.1) && (backToKw cpos (keywordEach [] X.env)).all (fun x => x.1.isSome)
      && decide (([e] : List Expr).length + ([] : List Keyword).length + (if ([] : List Keyword).isEmpty then 0 else 1) < 30)) = true := by rfl) :
    DE X Y (.Call (.Attribute o "update" apos) [e] [] cpos) (dUpdate to te) := by
  refine PE.weak (pe_bm PySem.F.plainAttrs_dict PySem.F.slot_dict_update PySem.F.type_dict_update (md_update (Y := Y)) ho (da_cons he da_nil hs) hbase hfew hline hs rfl) ?_
  rintro σ H Q0 ⟨F, M, ρ, Q, rs, rl, q, k⟩
  refine ⟨F, M, ρ, _, rs, rl, q, fun v d F1 M1 H1 s1 rp1 ⟨⟨a, kvs, e1, hm⟩, q1⟩ => ?_⟩
  subst e1
  cases rp1
  obtain ⟨vs, h1, _⟩ := s1.rel.dic hm
  refine ⟨.inr (.inr (.inl ⟨rfl, .inl ⟨_, h1⟩⟩)), F1, M1, ρ, fun ds M2 => rUpdD (.ref a) ds M2 Q, rs.mono s1.same, s1.rel, q1, fun vs ds F2 M2 H2 s2 rp2 q2 => ?_⟩
  exact ⟨F2, M2, .ref a, ds, Q, .ref a, rp2, s2.rel, q2, fun v z F3 M3 H3 s3 => k v z F3 M3 H3 ((s1.trans s2).trans s3)⟩
/-- {..}.get(e, n) of a written dict of texts and numbers -/
def dGetC (kvs : List (Str × Int)) (t : DTE) (n : Int) : DTE := fun ρ M Q => t ρ M fun d M1 => ∃ x, d = .str x ∧ Q ((lkD (.inr x) (kvs.map fun kv => Sum.inr kv.1) (kvs.map fun kv => .int kv.2)).getD (.int n)) M1
theorem de_getC {m : Nat} (hr : Room m X.A) {keys : List (Option Expr)} {values : List Expr} {dpos npos : Pos} {n : Int} {j : Nat} (kvs : List (Str × Int)) (h : PPs X dpos keys values (kvE kvs)) (hm : mergeK [] (kvV kvs) = kvV kvs) (he : DE X Y e t)
    (m2 : M2 X (.Dict keys values dpos) "get" apos e (.Constant (.int n) j npos) cpos) (hall : keys.all (·.isSome) = true := by rfl) (hl : keys.length = values.length := by rfl) (h0 : keys ≠ [] := by simp)
    (h15 : keys.length ≤ 15 := by decide) (few : kvs.length ≤ 15 := by decide) : DE X Y (.Call (.Attribute (.Dict keys values dpos) "get" apos) [e, .Constant (.int n) j npos] [] cpos) (dGetC kvs t n) := by
  have hu := hr.units
  refine PE.weak (pe_dget2 (by omega) (de_dictC (Y := Y) kvs h hm hall hl h0 h15 few) he (de_int (Y := Y)) m2) ?_
  rintro σ H Q0 ⟨F, M, ρ, Q, rs, rl, q, k⟩
  refine ⟨F, M, ρ, fun d M1 => M1 = M ∧ d = .dct (kvs.map fun kv => Sum.inr kv.1) (kvs.map fun kv => .int kv.2), rs, rl, ⟨rfl, rfl⟩, fun v d F1 M1 H1 s1 rp1 ⟨e1, e2⟩ => ?_⟩
  subst e1 e2
  cases rp1 with
  | dct at1 len ra =>
    rename_i a vs
    refine ⟨a, rfl, .inl ⟨_, .inl (s1.rel.sub _ _ at1)⟩, F1, M1, ρ, _, rs.mono s1.same, s1.rel, q, fun y d F2 M2 H2 s2 rp2 ⟨x, ex, q2⟩ => ?_⟩
    subst ex
    cases rp2
    refine ⟨F2, M2, ρ, fun z M3 => M3 = M2 ∧ z = .int n, (rs.mono s1.same).mono s2.same, s2.rel, ⟨rfl, rfl⟩, fun z zd F3 M3 H3 s3 rp3 ⟨e3, e4⟩ => ?_⟩
    subst e3 e4
    cases rp3
    refine ⟨_, .inl ⟨_, Sum.inr x, .inl (s3.rel.sub _ _ (s3.same _ _ (s2.same _ _ at1))), rfl, rfl⟩, ?_⟩
    have sT := (s1.trans s2).trans s3
    rcases lk_rp (Sum.inr x) ra len with ⟨h1, h2⟩ | ⟨d2, v2, h1, h2, h3⟩
    · rw [h1] at q2
      rw [h2]
      exact k _ _ F3 _ H3 sT (.int n) q2
    · rw [h1] at q2
      rw [h2]
      exact k _ _ F3 _ H3 sT ((h3.mono s2.same).mono s3.same) q2
end
/-! ### enumerate over a tuple -/
set_option maxHeartbeats 4000000 in
theorem meets_enum_tup {v : Value} {o : Obj} {H : Heap → Prop} (B : Begins v o H) :
    Meets (Builtin.«enumerate.__new__» ⟨[.type "enumerate", v], []⟩) (fun _ R s => H s.heap ∧
      R (.ok (.ret (.ref (s.heap.push o).objs.size))) { s with heap := (s.heap.push o).push { cls := .type "enumerate", data := .fields #[.none, .bool false, .ref s.heap.objs.size, rawInt 0, .none, .none] } }) :=
  .of_wp fun prog w A R s ⟨h1, h2⟩ => by
    obtain ⟨hp, g, d, tk, os⟩ := s
    have hsub := sub_enumerate
    have it : ∀ {A' : Around} {E : Value → Shared → Prop} {Q : Value → Shared → Prop}, Q (.ref hp.objs.size) ⟨hp.push o, g, d, tk, os⟩ → wpAny (model prog w) A' (pyIter v) Q E ⟨hp, g, d, tk, os⟩ := fun q => B.iter prog w _ _ ⟨hp, g, d, tk, os⟩ _ h1 q
    wp_walk using it
    refine wpAny_stack_any fun st => wpAny_pure ?_
    split
    · rename_i c _ _ _ _ _
      cases (c == Value.type "enumerate")
      · wp_walk using it
        exact ⟨_, rfl, h2⟩
      · wp_walk using it
        exact ⟨_, rfl, h2⟩
    · wp_walk using it
      exact ⟨_, rfl, h2⟩
section
variable {prog : Program} {w : World} {A : Around} {E : Value → Shared → Prop} {s : Shared}
theorem call_enum_tup {l : Addr} {items : Array Value} {Q : Value → Shared → Prop} (hL : s.heap.IsTuple l items)
    (k : ∀ h', IsEnum h' (s.heap.objs.size + 1) s.heap.objs.size 0 .none → h'.IsTupleIter s.heap.objs.size l 0 → (∀ b o, s.heap.get? b = some o → h'.get? b = some o) → Q (.ref (s.heap.objs.size + 1)) { s with heap := h' }) :
    wpAny (model prog w) A (call (.type "enumerate") [.ref l]) Q E s := by
  refine callType_new F.called_enumerate (by decide) (F.typeCall_enumerate_1 _) (F.newCall_enumerate_1 _) (fun obj => F.args_object_init_2 obj _) F.entry_enumerate_new (meets_enum_tup (begins_tuple l items)) ⟨hL, ?_⟩
  have sz : (s.heap.push { cls := .type "tuple_iterator", data := .fields #[.ref l, .int 0 0] }).objs.size = s.heap.objs.size + 1 := Heap.size_push ..
  show _ ∧ _
  rw [sz]
  have en : IsEnum ((s.heap.push { cls := .type "tuple_iterator", data := .fields #[.ref l, .int 0 0] }).push { cls := .type "enumerate", data := .fields #[.none, .bool false, .ref s.heap.objs.size, rawInt 0, .none, .none] }) (s.heap.objs.size + 1) s.heap.objs.size 0 .none := by
    have z := Heap.get?_push_size (s.heap.push { cls := .type "tuple_iterator", data := .fields #[.ref l, .int 0 0] }) (o := { cls := .type "enumerate", data := .fields #[.none, .bool false, .ref s.heap.objs.size, rawInt 0, .none, .none] }) rfl
    rw [sz] at z
    exact z
  exact ⟨⟨_, en, rfl⟩, k _ en ⟨_, Heap.get?_push_of_some _ (Heap.get?_push_size _ rfl), rfl, rfl⟩ fun b o y => Heap.get?_push_of_some _ (Heap.get?_push_of_some _ y)⟩
end
section
variable {X : Cx} {Y : KJ X.K} {pos p apos cpos tpos : Pos} {a b o e f : Expr} {t u to te : DTE} {elts : List Expr} {kk : Nat}
/-- the tuple at a, its items xs, each item in a new pair -/
def IteT (K : PySem.W.Frag) (a : Addr) : It :=
  ⟨fun i H => ∃ (xs : List V) (x : V), SqT K H a xs ∧ xs[i]? = some x, fun i H v H' => ∃ T x, v = .ref T ∧ H T = none ∧ H' = upd H T (.tup [.int (i : Nat), x]) ∧ ∀ xs, SqT K H a xs → xs[i]? = some x, fun i H => ∃ xs : List V, SqT K H a xs ∧ xs.length = i⟩
theorem turn_enumT {P : Program} {w : World} {K : PySem.W.Frag} {elts : List Expr} {kk : Nat} {tpos : Pos} (a en it : Addr) (ne : en ≠ it) (nt : a ≠ it) (nn : a ≠ en) :
    Turn P w K (.Tuple elts kk tpos) (IteT K a) [en, it] en (fun i h => (∃ old, IsEnum h en it ((i : Nat) : Int) old) ∧ h.IsTupleIter it a i) where
  mem := by simp
  obj := fun i h st b hb => by
    obtain ⟨⟨old, he⟩, ⟨o, ho, hc, hd⟩⟩ := st
    have e' : b = en ∨ b = it := by simpa using hb
    rcases e' with z | z
    · rw [z]; exact ⟨_, he, fun v q => nomatch q⟩
    · rw [z]; exact ⟨o, ho, fun v q => by rw [hd] at q; cases q⟩
  keep := fun i h h' st k => by
    obtain ⟨⟨old, he⟩, hi⟩ := st
    exact ⟨⟨old, k en (by simp) _ he⟩, hi.at fun o q => k it (by simp) o q⟩
  item := by
    intro X hP hw hK hc i pins s σ H E I hf st hg
    subst hP hw hK
    obtain ⟨⟨old, he⟩, hs⟩ := st
    obtain ⟨xs, x, hq, hx⟩ := hg
    obtain ⟨its, rv, tp, hz⟩ := I.tuple hq
    obtain ⟨u, hu, ru⟩ := rv.get hx
    have D1 := Draws.tuple (prog := X.prog) (w := X.w) (A := X.A.in1) (I.ok.hd hc) it a nt its.toArray
    have al : en < s.heap.objs.size := Heap.lt_size he
    have il : it < s.heap.objs.size := by obtain ⟨_, z, _⟩ := hs; exact Heap.lt_size z
    have hlt : i < its.toArray.size := by
      rw [List.size_toArray]
      exact (List.getElem?_eq_some_iff.mp hu).1
    refine wpAny_pyNext_enum_itemD D1 he ⟨hs, tp⟩ hlt ne (by simp [ne, Ne.symm nn]) fun y h' tk' py out hs' hT hsz hk => ?_
    have ey : y = u := by
      have py' : its.toArray[i]? = some y := py
      rw [List.getElem?_toArray, hu] at py'
      exact (Option.some.inj py').symm
    subst ey
    refine ⟨_, rfl, wpAny_letOwnedTupleGo_enum (s := { s with heap := h', toks := tk' + 1 }) out fun h'' he' sb => ?_⟩
    have hT2 : h''.get? s.heap.objs.size = some { cls := .type "tuple", data := .seq #[.int (i : Nat) tk', y] } := (sb.2 _ (Nat.ne_of_gt al)).trans hT
    have new : ObjOk X.prog X.w (upd H s.heap.objs.size (.tup [.int (i : Nat), x])) h'' s.heap.objs.size (.tup [.int (i : Nat), x]) :=
      ⟨by show 2 ≤ sizeLine; decide, [.int (i : Nat) tk', y], .cons ⟨_, rfl⟩ (.cons ru .nil), ⟨_, hT2, rfl, _, rfl⟩⟩
    have I1 : Inv X pins σ (upd H s.heap.objs.size (.tup [.int (i : Nat), x])) { s with heap := h'', toks := tk' + 1 } :=
      I.turnedNew (t' := tk' + 1) (ch := [en, it]) (fun b o hb q => (sb.2 b (fun z => hb (by simp [z]))).trans (hk b o (fun z => hb (by simp [z])) (fun z => hb (by simp [z])) q)) hf (Nat.le_refl _) new
    refine ⟨.ref s.heap.objs.size, _, I1, rfl, ⟨_, x, rfl, I.hok.fresh (Nat.le_refl _), rfl, fun ys hy => by rw [I.tuple_inj hy hq]; exact hx⟩, ⟨⟨y, ?_⟩, ?_⟩, fun b hb => ?_⟩
    · have e1 : ((i + 1 : Nat) : Int) = (i : Int) + 1 := by omega
      rw [e1]; exact he'
    · exact hs'.1.at fun o q => (sb.2 it (Ne.symm ne)).trans q
    · have e' : b = en ∨ b = it := by simpa using hb
      have lt : b < s.heap.objs.size := by rcases e' with q | q <;> rw [q] <;> assumption
      rw [upd_ne (Nat.ne_of_lt lt)]
      exact (hf b hb).1
  done := by
    intro X hP hw hK hc i pins s σ H E I hf st hg
    subst hP hw hK
    obtain ⟨⟨old, he⟩, hs⟩ := st
    obtain ⟨xs, hq, hl⟩ := hg
    obtain ⟨its, rv, tp, hz⟩ := I.tuple hq
    obtain ⟨f0, f1, f2, f3, f4, f5⟩ := hf it (by simp)
    have D1 := Draws.tuple (prog := X.prog) (w := X.w) (A := X.A.in1) (I.ok.hd hc) it a nt its.toArray
    have e : i = its.toArray.size := by rw [List.size_toArray, ← rv.length, hl]
    subst e
    exact wpAny_pyNext_enum_endD D1 he ⟨hs, tp⟩ fun h' eb => ⟨rfl, I.turned (t' := s.toks) (fun b o hb q => eb b o (by simpa using hb) q) f0 f1 f3 f4 f5⟩
  self := fun A i s Q E st h => let ⟨⟨_, he⟩, _⟩ := st; wpAny_pyIter_enum he h
def iEnumT (K : PySem.W.Frag) (ta : TA) : TI := fun σ H R => ta σ H fun vs H1 => ∃ a xs, vs = [.ref a] ∧ SqT K H1 a xs ∧ R (IteT K a) H1
theorem pi_enumT {ta : TA} (hg : Gl X "enumerate") (hm : X.mg "enumerate" = none) (ha : PA X [e] ta) (hs : starEach [e] X.env = (false, eval e X.env) :: starEach [] X.env) :
    PI X (.Tuple elts kk tpos) (.Call (.Name "enumerate" p) [e] [] pos) (iEnumT X.K ta) := by
  constructor
  intro pins s σ H R I h
  refine Call_ (ld_blt I hg hm boot_enumerate (PyProof.Rows.callWith_type1 (thn (ha.run pos pins s σ H _ I h) ?_) hs rfl))
  rintro us s1 ⟨vs, H1, I1, r1, a, xs, rfl, hq, q⟩
  obtain ⟨u1, rfl, r2⟩ := vals1 r1
  cases r2
  obtain ⟨its, rv, tp, hz⟩ := I1.tuple hq
  refine call_enum_tup tp fun h' he hit hk => wpAny_pyIter_enum he ?_
  have I2 : Inv X pins σ H1 { s1 with heap := h' } := I1.kept (t' := s1.toks) hk
  have la : a < s1.heap.objs.size := tp.lt
  refine ⟨s1.heap.objs.size + 1, [s1.heap.objs.size + 1, s1.heap.objs.size], _, _, H1, rfl, I2, turn_enumT a _ _ (Nat.succ_ne_self _) (Nat.ne_of_lt la) (Nat.ne_of_lt (Nat.lt_succ_of_lt la)), ⟨⟨.none, he⟩, hit⟩, fun b hb => ?_, q⟩
  have e' : b = s1.heap.objs.size + 1 ∨ b = s1.heap.objs.size := by simpa using hb
  have le : s1.heap.objs.size ≤ b := by
    rcases e' with z | z
    · rw [z]; exact Nat.le_add_right _ _
    · rw [z]; exact Nat.le_refl _
  exact I1.fpOk le (I1.hok.fresh le)
def dEnumT (t : DTE) : DTI := fun ρ M R => t ρ M fun d M1 => ∃ xs, d = .tup xs ∧ R (numD xs) (fun _ => True) M1
theorem di_enumT (hm : X.mg "enumerate" = none) (he : DE X Y e t) (hg : Gl X "enumerate" := by rfl) (hs : starEach [e] X.env = (false, eval e X.env) :: starEach [] X.env := by rfl) :
    DI X Y (.Tuple elts kk tpos) (.Call (.Name "enumerate" p) [e] [] pos) (dEnumT t) := by
  refine PI.weak (pi_enumT hg hm (pa_cons he pa_nil hs) hs) ?_
  rintro σ H R0 ⟨F, M, ρ, R, rs, rl, q, k⟩
  refine ⟨F, M, ρ, _, rs, rl, q, fun v d F1 M1 H1 s1 rp1 ⟨xs, ex, q1⟩ => ?_⟩
  subst ex
  cases rp1 with
  | tup sq ra =>
    rename_i a ws
    refine ⟨a, ws, rfl, Same.tseq s1.rel.sub sq, k _ _ _ F1 M1 H1 s1 ⟨fun F3 M3 H3 s3 r3 g => ?_⟩ q1⟩
    have sq3 : SqT X.K H3 a ws := Same.tseq (s3.trans r3.sub) sq
    have hl : (numD xs).length = ws.length := by unfold numD; simp [ra.length]
    refine ⟨⟨ws, sq3, hl.symm⟩, fun i dd hi => ?_⟩
    obtain ⟨y, hy, rfl⟩ := numD_get hi
    obtain ⟨w, hw, rw'⟩ := ra.get hy
    refine ⟨⟨ws, w, sq3, hw⟩, fun vv H4 yy => ?_⟩
    obtain ⟨T, x, rfl, hT, eH, hx⟩ := yy
    have e1 := hx ws sq3
    rw [hw] at e1
    cases e1
    exact jw_pair s3 r3 (.int _) (rw'.mono s3) hT eH
end
end DL

set_option maxHeartbeats 4000000
/-! DX9b: a lambda with one parameter, handed to a def of two parameters that calls it. -/
namespace DL
open PySem PySem.Spec L2 LamX
open PyProof.Rows hiding St

/-- the slot i, a lambda, called -/
def dAppL (i : Nat) (f : Addr) (tl : DTE) (t : DTE) : DTE := fun ρ M Q => ρ[i]? = some (some (.ref f)) ∧ t ρ M fun d M1 => tl [some d] M1 Q
/-- x(e, lambda): the def's own body, the lambda's reading within it -/
def dLam2 (N : List Str) (tb : Addr → DTS) (t : DTE) : DTE := fun ρ M Q => t ρ M fun d M1 => ∀ f, tb f { nx := fun _ M' => Q .non M', rt := Q } (dstart N [d, .ref f]) M1
theorem clo_nil {cells : List (Str × Addr)} : ∀ {ns : List (Str × NameKind)} {acc : List (Str × Addr)}, (∀ y ∈ ns, y.2 ≠ .free) → cloFrom cells ns acc = acc
  | [], acc, _ => rfl
  | (x, k) :: ns, acc, h => by
    have hk := h (x, k) List.mem_cons_self
    have ih := clo_nil (cells := cells) (ns := ns) (acc := acc) fun y hy => h y (List.mem_cons_of_mem _ hy)
    unfold cloFrom
    cases k <;> first | exact ih | exact absurd rfl hk
/-- a state behind the making of the lambda, its code object in sight -/
def lamJ {K : PySem.W.Frag} (T : TT8) (F0 : Hp) (M0 : Mp) (H0 : Hp) (c' : Addr) (q : Str) : KJ K where
  T := T
  J := fun F M H => StpR K T F0 M0 H0 F M H ∧ LamX.Tabs T H ∧ H c' = some (CodeO c' q)
  cl := by
    rintro F M H F' M' H' ⟨a, t, hc⟩ s
    refine ⟨a.trans s, s.tab t, ?_⟩
    have notT : ∀ ps, CodeO c' q ≠ .tbl ps := fun ps z => codeO_ne ps z
    cases e : F c' with
    | some o =>
      have h1 := a.rel.sub _ _ e
      rw [hc] at h1
      cases h1
      exact s.rel.sub _ _ (s.same _ _ e)
    | none =>
      cases e2 : M c' with
      | none => exact (s.fr _ _ hc e e2 notT).1
      | some m =>
        obtain ⟨_, o, h1, r⟩ := a.rel.mt _ _ e2
        rw [hc] at h1
        cases h1
        unfold CodeO at r
        cases m <;> exact r.elim
section
variable {X : Cx} {Y : KJ X.K}
/-- in the def that got the lambda: its call -/
theorem de_appL {x b y q : Str} {sg scope : Scope} {Ng : List Str} {g f c' : Addr} {cdv pm ctv : Value} {s2 : Shared} {H2 : Hp} {k : Nat} {params : Arguments} {body e : Expr} {t tl : DTE} {Y' : KJ X.K} {p1 p2 : Pos}
    (SL : FnScope [y] [y] scope) (hf : s2.heap.get? f = some (PySem.W.kla_obj "<lambda>" q params body scope [] pm c' ctv)) (hfn : H2 f = none) (hfr : f ∉ frs X.stack)
    (code : ∀ F M H, Y'.J F M H → H c' = some (CodeO c' q)) (onearg : ∀ u : Value, bindArgs (PySem.W.kla_fn "<lambda>" q params body scope [] pm (.ref c') ctv) ⟨[u], []⟩ = pure [(y, u)])
    (room : Room (k + 1) (X.A.deeper (envOfC x sg s2.heap.objs.size g cdv)))
    (inner : ∀ (A : Around) (outer : List Env) (s : Shared) (H : Hp), DE (cxOf C8.CX0 X.prog X.w X.K X.mg X.base [y] q scope f (.ref c') A outer s H C8.E0) Y' body tl)
    (N1 : Ng[1]? = some b) (vis : Vis sg b) (n2 : (b == ("__debug__" : Str)) = false) (n3 : (b == ("__classdict__" : Str)) = false)
    (he : DE (Zg X Ng x sg g cdv s2 H2) Y' e t) (se : starEach [e] (Zg X Ng x sg g cdv s2 H2).env = (false, eval e (Zg X Ng x sg g cdv s2 H2).env) :: starEach [] (Zg X Ng x sg g cdv s2 H2).env) :
    DE (Zg X Ng x sg g cdv s2 H2) Y' (.Call (.Name b p1) [e] [] p2) (dAppL 1 f tl t) := by
  constructor
  rintro pins s σ H Q0 I ⟨F, M, ρ, Q, rs, rl, ⟨sl, q1⟩, kk⟩
  apply wpAny_Call_Name_kw
  obtain ⟨vf, hs1, hs2⟩ := rs.2 1 _ sl
  cases hs2
  refine thn ((pe_var (pos := p1) (i := 1) N1 vis n2 n3).run pins s σ H (fun v G => v = .ref f ∧ G = H) I ⟨.ref f, hs1, rfl, rfl⟩) ?_
  rintro u s1 ⟨w0, G0, I1, rel, ev, eG⟩
  subst ev eG
  obtain rfl : u = Value.ref f := rel
  have lam := I1.base.keep f _ hf hfn hfr (by intro z; cases z)
  refine PySem.W.callWith_F ⟨_, _, _, _, lam⟩ ?_ se rfl
  rw [se]
  show wpAny _ _ (spliced ((false, eval e (Zg X Ng x sg g cdv s2 H2).env) :: backTo p2 (starEach [] (Zg X Ng x sg g cdv s2 H2).env))) _ _ s1
  apply Calls.spliced_cons
  refine thn (he.run pins s1 σ G0 (fun v1 H1 => ∃ d F1 M1, Stp Y' F M G0 F1 M1 H1 ∧ Rp X.K F1 v1 d ∧ tl [some d] M1 Q) I1 ⟨F, M, ρ, _, rs, rl, q1, fun v d F1 M1 H1 st rp z => ⟨d, F1, M1, st, rp, z⟩⟩) ?_
  rintro u s3 ⟨v1, H1, I3, rel1, d, F1, M1, st, rp, z⟩
  have lam := I3.base.keep f _ hf hfn hfr (by intro z; cases z)
  refine Calls.spliced_nil ⟨⟨_, _, _, _, lam⟩, ?_⟩
  have cd := code _ _ _ st.rel.j
  obtain ⟨⟨oc, vs, tt, c1, c2, c3⟩, _, _⟩ := I3.hok c' _ cd
  have run : codeAny (model X.prog X.w) (X.A.deeper (envOfC x sg s2.heap.objs.size g cdv)) (.call (.ref f) ⟨[u], []⟩) (CR C8.CX0 (envOfC x sg s2.heap.objs.size g cdv :: X.stack) X.prog X.w H1 s3 Q0 C8.E0) s3 := by
    apply PySem.W.kla_callFunE room.depth lam rfl SL.co SL.gen rfl ⟨c', oc, vs, tt, rfl, c1, c2, c3⟩
    rw [onearg]
    apply wpAny_pure
    refine wpAny_newFunctionEnv_cells SL.kind ?_ ?_
    · rintro ⟨n, v⟩ hy
      obtain ⟨rfl, rfl⟩ : n = y ∧ v = u := by simpa using hy
      rcases SL.par n (by simp) with k | k
      · exact .inl k
      · exact .inr ⟨k, PySem.W.cellsFrom_some _ _ _ (.inl k)⟩
    rintro env rfl s4 xx
    refine ⟨I3.nolimit.keeps xx.toInCall.keep, ?_⟩
    have J : Inv (cxOf C8.CX0 X.prog X.w X.K X.mg X.base [y] q scope f (.ref c') (X.A.deeper (envOfC x sg s2.heap.objs.size g cdv)) (envOfC x sg s2.heap.objs.size g cdv :: X.stack) s3 H1 C8.E0) [] (L2.start [y] [v1]) H1 s4 :=
      inv_start (us := [u]) SL room.hd I3.env0 rfl (.cons rel1 .nil) xx
    refine PySem.W.kla_codeExpr (wpAny_mono ((inner (X.A.deeper (envOfC x sg s2.heap.objs.size g cdv)) _ s3 H1).run [] _ _ H1 Q0 J ?_) ?_ fun e s' q => q)
    · exact ⟨F1, M1, [some d], Q, relS_start (N := [y]) (.cons rp .nil), st.rel, z, fun v d2 F2 M2 H2 s2 rp2 q2 => kk v d2 F2 M2 H2 (st.trans s2) rp2 q2⟩
    · rintro v s' ⟨w', G, J', rv, q⟩
      exact ⟨w', G, J'.os, J'.bare, J'.base, J'.hok, rv, q⟩
  apply wpAny_call
  refine codeAny_mono run ?_
  intro r s' res
  cases r with
  | error e => exact (show False from res).elim
  | ok fl => cases fl with
    | ret u => exact I3.after res
    | next => exact res.elim
    | brk => exact res.elim
    | cont => exact res.elim
/-- x(e, lambda y: body) -/
theorem de_lam2 {x a b y : Str} {st : Stmt} {Ng : List Str} {c P : Addr} {k : Nat} {params : Arguments} {body e1 : Expr} {scope : Scope} {t1 tl : DTE} {tb : Addr → DTS} {p lpos pos : Pos}
    (D : Has X.K X.mg x x st [a, b] []) (S : FnScope Ng [a, b] (defScope st)) (SL : FnScope [y] [y] scope)
    (tbB : TabB X.base X.mg c P) (cod : X.env.code = .ref c) (inT : (P, X.env.qual ++ "<lambda>") ∈ Y.T) (onlyT : ∀ p ∈ Y.T, p.1 = P → p.2 = X.env.qual ++ "<lambda>")
    (hr : Room (k + 2) X.A) (gu : X.A.guards = some []) (xt : XT Y) (h1 : DE X Y e1 t1)
    (inner : ∀ (A : Around) (outer : List Env) (s : Shared) (H : Hp) (f c' : Addr) (Y' : KJ X.K), DE (cxOf C8.CX0 X.prog X.w X.K X.mg X.base [y] (X.env.qual ++ "<lambda>") scope f (.ref c') A outer s H C8.E0) Y' body tl)
    (give : ∀ (g f : Addr) (cdv : Value) (s : Shared) (H : Hp) (Y' : KJ X.K), Room (k + 1) (X.A.deeper (envOfC x (defScope st) s.heap.objs.size g cdv)) →
      (∀ {e : Expr} {t : DTE} {p1 p2 : Pos}, DE (Zg X Ng x (defScope st) g cdv s H) Y' e t → starEach [e] (Zg X Ng x (defScope st) g cdv s H).env = (false, eval e (Zg X Ng x (defScope st) g cdv s H).env) :: starEach [] (Zg X Ng x (defScope st) g cdv s H).env →
        DE (Zg X Ng x (defScope st) g cdv s H) Y' (.Call (.Name b p1) [e] [] p2) (dAppL 1 f tl t)) →
      DSs (Zg X Ng x (defScope st) g cdv s H) Y' (defBody st) (tb f))
    (nofree : ∀ z ∈ scope.names, z.2 ≠ .free := by decide)
    (nodef : defaultsOf params X.env = ([], []) := by rfl) (onearg : ∀ (q : Str) (pm cv ctv u : Value), bindArgs (PySem.W.kla_fn "<lambda>" q params body scope [] pm cv ctv) ⟨[u], []⟩ = pure [(y, u)] := by intros; rfl)
    (gl : Gl X x := by rfl) (N1 : Ng[1]? = some b := by rfl) (vis : Vis (defScope st) b := by first | exact Or.inl rfl | exact Or.inr (Or.inl rfl))
    (n1 : (x == ("__debug__" : Str)) = false := by decide) (n2 : (b == ("__debug__" : Str)) = false := by decide) (n3 : (b == ("__classdict__" : Str)) = false := by decide)
    (se : starEach [e1, .Lambda params body scope lpos] X.env = (false, eval e1 X.env) :: starEach [.Lambda params body scope lpos] X.env := by rfl) :
    DE X Y (.Call (.Name x p) [e1, .Lambda params body scope lpos] [] pos) (dLam2 Ng tb t1) := by
  obtain ⟨g, oc, od, dV, kV, doc, pm, an, cdv, ct, osl, us, dvs, lk, hcd, kp, m, bi, vd, rd⟩ := D.ex
  have u0 : us = [] ∧ dvs = [] := by
    have := rd (fun _ => none)
    cases this
    cases vd
    exact ⟨rfl, rfl⟩
  obtain ⟨rfl, rfl⟩ := u0
  constructor
  rintro pins s σ H Q0 I ⟨F, M, ρ, Q, rs, rl, q, kk⟩
  apply wpAny_Call_Name_kw
  refine ld_glob I gl m ?_ n1
  refine PySem.W.callWith_K (h₀ := X.base) I.ok.mod.kin kp ?_ se (by rfl)
  rw [se]
  show wpAny _ _ (spliced ((false, eval e1 X.env) :: (false, eval (.Lambda params body scope lpos) X.env) :: backTo pos (starEach [] X.env))) _ _ s
  apply Calls.spliced_cons
  refine thn (h1.run pins s σ H (fun v1 H1 => ∃ d F1 M1, Stp Y F M H F1 M1 H1 ∧ Rp X.K F1 v1 d ∧ ∀ f, tb f { nx := fun _ M' => Q .non M', rt := Q } (dstart Ng [d, .ref f]) M1) I ⟨F, M, ρ, _, rs, rl, q, fun v d F1 M1 H1 st rp z => ⟨d, F1, M1, st, rp, z⟩⟩) ?_
  rintro u s1 ⟨v1, H1, I1, rel1, d, F1, M1, st, rp, z⟩
  apply Calls.spliced_cons
  apply lam_make2 I1 tbB cod inT onlyT (xt.tabs _ _ _ st.rel.j) nodef (fun z hz e => absurd e (nofree z hz))
  intro f c' pm' ctv H2 s2 I2 eN T2 hf hfn hfr hco
  rw [clo_nil nofree] at hf
  refine Calls.spliced_nil ⟨I2.kIn, ?_⟩
  have st2 := RelR.ext (T := Y.T) st.rel.r eN (fun _ => T2)
  have run : codeAny (model X.prog X.w) X.A (.call (.ref g) ⟨[u, .ref f], []⟩) (CR C8.CX0 X.stack X.prog X.w H2 s2 Q0 C8.E0) s2 := by
    refine run_ofS (N := Ng) (ps := [a, b]) (us := [u, .ref f]) (vs := [v1, .ref f]) lk hcd S hr I2.env0 (bi s2 [u, .ref f] I2.kIn rfl) (.cons rel1 (.cons rfl .nil)) rfl ?_
    intro room'
    refine ⟨_, give g f cdv s2 H2 (lamJ Y.T F1 M1 H2 c' (X.env.qual ++ "<lambda>")) room' (fun he hse => de_appL SL hf hfn hfr (fun F M H j => j.2.2) (onearg _ _ _ _) room' (fun A outer s H => inner A outer s H f c' _) N1 vis n2 n3 he hse), ?_⟩
    refine ⟨F1, M1, dstart Ng [d, .ref f], { nx := fun _ M' => Q .non M', rt := Q }, relS_start (N := Ng) (.cons rp (.cons (.ref f) .nil)), ⟨st2.rel, StpR.refl st2.rel, T2, hco⟩, z f, ?_⟩
    exact ⟨fun _ _ F' M' H' s' _ q' => kk .non .non F' M' H' ((st.trans (Stp.of st.rel st2)).trans (Stp.of (st.trans (Stp.of st.rel st2)).rel s'.s)) .non q',
      fun v d F' M' H' s' rp' q' => kk v d F' M' H' ((st.trans (Stp.of st.rel st2)).trans (Stp.of (st.trans (Stp.of st.rel st2)).rel s'.s)) rp' q',
      fun _ _ _ _ _ _ _ z => z.elim, fun _ _ _ _ _ _ _ z => z.elim⟩
  apply wpAny_call
  refine codeAny_mono run ?_
  intro r s3 q
  match r, q with
  | .error _, q => exact (show False from q).elim
  | .ok (.ret u), q => exact I2.after q
  | .ok .next, q => exact q.elim
  | .ok .brk, q => exact q.elim
  | .ok .cont, q => exact q.elim
end
end DL

set_option maxHeartbeats 4000000
/-! K27a: the defs of the text, printed by gen4.py. -/
namespace K27
open PySem PySem.Spec L2 DL
open PyProof.Rows hiding St
/-- the exceptions that are heard -/
def kn (x : Str) : Prop := x = "BadLens"
def isC (y : Str) (x : Str) : Bool := x == y
structure Exs (P : Program) (w : World) (K : PySem.W.Frag) (mg : Str → Option Value) (base : Heap) : Prop where
  x_BadLens : ExC P w K mg base "BadLens"
structure Kns (K : PySem.W.Frag) (mg : Str → Option Value) (CS C_BadLens : Addr) : Prop where
  mT : mg "TextError" = some (.ref CS)
  m_BadLens : mg "BadLens" = some (.ref C_BadLens)
  known : Known K kn
  sub : ∀ n C, kn n → PySem.W.nsIn K mainGlobals n = some (some (.ref C)) → PySem.W.exmOne K (.ref C) (.ref CS) = some true
  sub_BadLens : SubsOf K kn C_BadLens (isC "BadLens")
def topS (i : Nat) : Stmt := PySem.Challenge.pw_eithermended_k27_programs_by_their_form.main.body.getD i (.Pass ⟨0, 0, 0, 0⟩)
def v_CAT : DL.D := .str "cat"
def v_CONST : DL.D := .str "const"
def v_COPY : DL.D := .str "copy"
def v_LEAVES : DL.D := .tup [(.str "text"), (.str "sign")]
def v_MOST_DEEP_lenses : DL.D := .int 20
def v_MOST_DEEP_types : DL.D := .int 30
def v_MOST_LEAF : DL.D := .int 20
def v_MOST_NODES : DL.D := .int 120
def v_MOST_PROGRAMS : DL.D := .int 80
def v_MOST_SHORT : DL.D := .int 20
def v_MOST_SIGNS_lenses : DL.D := .int 100
def v_ONE_PART : DL.D := .tup [(.str "star")]
def v_OR : DL.D := .str "or"
def v_PAIR : DL.D := .int 2
def v_PAIRS : DL.D := .tup [(.str "cat"), (.str "or")]
def v_ROWED : DL.D := .tup [(.str "star"), (.str "keyed")]
def v_SIGN : DL.D := .str "sign"
def v_SIGNS : DL.D := .str "\x0a ,-.0123456789:;=abcdefghijklmnopqrstuvwxyz"
def v_STAR : DL.D := .str "star"
def v_SWAP : DL.D := .str "swap"
def v_TEXT : DL.D := .str "text"
def v_TRIPLE : DL.D := .int 3
def v_TWO_PARTS : DL.D := .tup [(.str "cat"), (.str "or"), (.str "swap"), (.str "keyed"), (.str "then")]
def v_WORDS : DL.D := .tup [(.str "text"), (.str "sign"), (.str "cat"), (.str "or"), (.str "star")]
abbrev st__law_heard : Stmt := topS 56
abbrev N__law_heard : List Str := ["call", "caught", "back", "error"]
theorem sc__law_heard : FnScope N__law_heard ["call"] (defScope st__law_heard) := ⟨rfl, rfl, rfl, by decide +kernel, rfl, by decide +kernel, by decide +kernel⟩
theorem give_heard {X : Cx} {CS : Addr} (hm : X.mg "TextError" = some (.ref CS)) (g : Addr) (cdv : Value) (q : Str) : GivesS X N__law_heard "_law_heard" (defScope st__law_heard) g cdv (defBody st__law_heard) "call" q (THeard X.K CS) :=
  heard_gives rfl hm (by decide) rfl rfl rfl (by decide) (fun env h => by cases env; subst h; rfl) (fun env h => by cases env; subst h; rfl) (fun env h => by cases env; subst h; rfl) (fun env h => by cases env; subst h; rfl) (by decide) (by decide) (by decide) (by decide) (by decide) (by decide)
abbrev st_is_tuple : Stmt := topS 3
abbrev N_is_tuple : List Str := ["value", "least", "most"]
theorem sc_is_tuple : FnScope N_is_tuple ["value", "least", "most"] (defScope st_is_tuple) := ⟨rfl, rfl, rfl, by decide +kernel, rfl, by decide +kernel, by decide +kernel⟩
def r_is_tuple : DTS := (dRet (dAndV (dIsi "tuple" (dSlot 0)) (dChain (rInt (fun _ _ => True) fun i j => .bl (decide (i ≤ j))) (rInt (fun _ _ => True) fun i j => .bl (decide (i ≤ j))) (dSlot 1) (dCB rLen (dCons (dSlot 0) dNil)) (dSlot 2))))
abbrev st_is_word : Stmt := topS 4
abbrev N_is_word : List Str := ["value", "words"]
theorem sc_is_word : FnScope N_is_word ["value", "words"] (defScope st_is_word) := ⟨rfl, rfl, rfl, by decide +kernel, rfl, by decide +kernel, by decide +kernel⟩
def r_is_word : DTS := (dRet (dAndV (dIsi "str" (dSlot 0)) (dOp (rInD false) (dSlot 0) (dSlot 1))))
abbrev st_is_text : Stmt := topS 5
abbrev N_is_text : List Str := ["value", "most", "sign"]
theorem sc_is_text : FnScope N_is_text ["value", "most"] (defScope st_is_text) := ⟨rfl, rfl, rfl, by decide +kernel, rfl, by decide +kernel, by decide +kernel⟩
def r_is_text : DTS := (dRet (dAndV (dIsi "str" (dSlot 0)) (dAndV (dOp (rInt (fun _ _ => True) fun i j => .bl (decide (i ≤ j))) (dCB rLen (dCons (dSlot 0) dNil)) (dSlot 1)) (dCB rAllD (dCons (dLc true (dIt (dSlot 0)) (dgName 2) dYes (dOp (rInD false) (dSlot 2) (dC v_SIGNS)) [2]) dNil)))))
abbrev st_is_leaf : Stmt := topS 23
abbrev N_is_leaf : List Str := ["value", "one", "other"]
theorem sc_is_leaf : FnScope N_is_leaf ["value"] (defScope st_is_leaf) := ⟨rfl, rfl, rfl, by decide +kernel, rfl, by decide +kernel, by decide +kernel⟩
def r_is_leaf (sp_is_text : DS1) : DTS := (dSeq (dIfS (dB (dOp (rEqD2 false) (dOp rIxD (dSlot 0) (dC (.int 0))) (dC v_TEXT))) (dRet (dCall1 sp_is_text (dCons (dOp rIxD (dSlot 0) (dC (.int 1))) (dCons (dC v_MOST_LEAF) dNil)))) dNext) (dSeq (dIfS (dOrT (dNotT (dB (dCall1 sp_is_text (dCons (dOp rIxD (dSlot 0) (dC (.int 1))) (dCons (dCB rLen (dCons (dC v_SIGNS) dNil)) dNil))))) (dB (dOp (rEqD2 false) (dOp rIxD (dSlot 0) (dC (.int 1))) (dC (.str ""))))) (dRet (dC (.bl false))) dNext) (dRet (dCB rAllD (dCons (dLc true (dZipS (dOp rIxD (dSlot 0) (dC (.int 1))) (dSl true (dOp rIxD (dSlot 0) (dC (.int 1))) (dPart (dC (.int 1))) dNoPart)) (dgTup 2 (dgCons (dgName 1) (dgCons (dgName 2) dgNil))) dYes (dOp rLtD (dSlot 1) (dSlot 2)) [1, 2]) dNil)))))
abbrev st_is_node : Stmt := topS 24
abbrev N_is_node : List Str := ["value"]
theorem sc_is_node : FnScope N_is_node ["value"] (defScope st_is_node) := ⟨rfl, rfl, rfl, by decide +kernel, rfl, by decide +kernel, by decide +kernel⟩
def r_is_node (sp_is_tuple : DS1) (sp_is_word : DS1) (sp_is_leaf : DS1) : DTS := (dSeq (dIfS (dOrT (dNotT (dB (dCall1 sp_is_tuple (dCons (dSlot 0) (dCons (dC v_PAIR) (dCons (dC v_TRIPLE) dNil)))))) (dNotT (dB (dCall1 sp_is_word (dCons (dOp rIxD (dSlot 0) (dC (.int 0))) (dCons (dC v_WORDS) dNil)))))) (dRet (dC (.bl false))) dNext) (dSeq (dIfS (dB (dOp (rEqD2 true) (dCB rLen (dCons (dSlot 0) dNil)) (dIf (dB (dOp (rInD false) (dOp rIxD (dSlot 0) (dC (.int 0))) (dC v_PAIRS))) (dC v_TRIPLE) (dC v_PAIR)))) (dRet (dC (.bl false))) dNext) (dRet (dOrV (dOp (rInD true) (dOp rIxD (dSlot 0) (dC (.int 0))) (dC v_LEAVES)) (dCall1 sp_is_leaf (dCons (dSlot 0) dNil))))))
abbrev st_parts_of : Stmt := topS 25
abbrev N_parts_of : List Str := ["term"]
theorem sc_parts_of : FnScope N_parts_of ["term"] (defScope st_parts_of) := ⟨rfl, rfl, rfl, by decide +kernel, rfl, by decide +kernel, by decide +kernel⟩
def r_parts_of : DTS := (dRet (dIf (dB (dOp (rInD false) (dOp rIxD (dSlot 0) (dC (.int 0))) (dC v_LEAVES))) (dTup dNil) (dSl true (dSlot 0) (dPart (dC (.int 1))) dNoPart)))
abbrev st_is_type : Stmt := topS 26
abbrev N_is_type : List Str := ["value", "waiting", "nodes", "node", "deep", "part"]
theorem sc_is_type : FnScope N_is_type ["value"] (defScope st_is_type) := ⟨rfl, rfl, rfl, by decide +kernel, rfl, by decide +kernel, by decide +kernel⟩
def r_is_type (sp_is_node : DS1) (sp_parts_of : DS1) : DTS := (dSeq (dPar 1 2 (dCons (dLst false (dCons (dTup (dCons (dSlot 0) (dCons (dC (.int 1)) dNil))) dNil)) (dCons (dC (.int 0)) dNil))) (dSeq (dWhile (dB (dOp (rEqD2 true) (dSlot 1) (dLst true dNil))) (dSeq (dAsg (dPop (dSlot 1)) (dgTup 2 (dgCons (dgName 3) (dgCons (dgName 4) dgNil)))) (dSeq (dAsg (dOp (rAddD true) (dSlot 2) (dC (.int 1))) (dgName 2)) (dSeq (dIfS (dOrT (dB (dOp (rInt (fun _ _ => True) fun i j => .bl (decide (j < i))) (dSlot 2) (dC v_MOST_NODES))) (dOrT (dB (dOp (rInt (fun _ _ => True) fun i j => .bl (decide (j < i))) (dSlot 4) (dC v_MOST_DEEP_types))) (dNotT (dB (dCall1 sp_is_node (dCons (dSlot 3) dNil)))))) (dRet (dC (.bl false))) dNext) (dDrop (dExtend (dSlot 1) (dLc true (dIt (dCall1 sp_parts_of (dCons (dSlot 3) dNil))) (dgName 5) dYes (dTup (dCons (dSlot 5) (dCons (dOp (rAddD true) (dSlot 4) (dC (.int 1))) dNil))) [5]))))))) (dRet (dC (.bl true)))))
abbrev st_programs_in : Stmt := topS 40
abbrev N_programs_in : List Str := ["program"]
theorem sc_programs_in : FnScope N_programs_in ["program"] (defScope st_programs_in) := ⟨rfl, rfl, rfl, by decide +kernel, rfl, by decide +kernel, by decide +kernel⟩
def r_programs_in : DTS := (dRet (dIf (dB (dOp (rInD false) (dOp rIxD (dSlot 0) (dC (.int 0))) (dTup (dCons (dC v_COPY) (dCons (dC v_CONST) dNil))))) (dTup dNil) (dSl true (dSlot 0) (dPart (dC (.int 1))) dNoPart)))
abbrev st_ends_of_type : Stmt := topS 41
abbrev N_ends_of_type : List Str := ["term", "text", "begin", "word", "end", "found", "waiting", "middle", "place"]
theorem sc_ends_of_type : FnScope N_ends_of_type ["term", "text", "begin"] (defScope st_ends_of_type) := ⟨rfl, rfl, rfl, by decide +kernel, rfl, by decide +kernel, by decide +kernel⟩
def r_ends_of_type (sp_ends_of_type : DS1) : DTS := (dSeq (dAsg (dOp rIxD (dSlot 0) (dC (.int 0))) (dgName 3)) (dSeq (dIfS (dB (dOp (rEqD2 false) (dSlot 3) (dC v_TEXT))) (dSeq (dAsg (dOp (rAddD true) (dSlot 2) (dCB rLen (dCons (dOp rIxD (dSlot 0) (dC (.int 1))) dNil))) (dgName 4)) (dRet (dIf (dB (dOp (rEqD2 false) (dSl true (dSlot 1) (dPart (dSlot 2)) (dPart (dSlot 4))) (dOp rIxD (dSlot 0) (dC (.int 1))))) (dLst true (dCons (dSlot 4) dNil)) (dLst true dNil)))) dNext) (dSeq (dIfS (dB (dOp (rEqD2 false) (dSlot 3) (dC v_SIGN))) (dRet (dIf (dAndT (dB (dOp rLtD (dSlot 2) (dCB rLen (dCons (dSlot 1) dNil)))) (dB (dOp (rInD false) (dOp rIxD (dSlot 1) (dSlot 2)) (dOp rIxD (dSlot 0) (dC (.int 1)))))) (dLst true (dCons (dOp (rAddD true) (dSlot 2) (dC (.int 1))) dNil)) (dLst true dNil))) dNext) (dSeq (dIfS (dB (dOp (rEqD2 false) (dSlot 3) (dC v_OR))) (dRet (dSortSetI true (dOp (rAddD true) (dCall1 sp_ends_of_type (dCons (dOp rIxD (dSlot 0) (dC (.int 1))) (dCons (dSlot 1) (dCons (dSlot 2) dNil)))) (dCall1 sp_ends_of_type (dCons (dOp rIxD (dSlot 0) (dC (.int 2))) (dCons (dSlot 1) (dCons (dSlot 2) dNil))))))) dNext) (dSeq (dPar 5 6 (dCons dDictN (dCons (dLst false (dCons (dSlot 2) dNil)) dNil))) (dSeq (dIfS (dB (dOp (rEqD2 false) (dSlot 3) (dC v_CAT))) (dSeq (dFor (dIt (dCall1 sp_ends_of_type (dCons (dOp rIxD (dSlot 0) (dC (.int 1))) (dCons (dSlot 1) (dCons (dSlot 2) dNil))))) (dgName 7) (dDrop (dUpdate (dSlot 5) (dDc (dIt (dCall1 sp_ends_of_type (dCons (dOp rIxD (dSlot 0) (dC (.int 2))) (dCons (dSlot 1) (dCons (dSlot 7) dNil))))) (dgName 4) dYes (dSlot 4) (dC (.bl true)) [4])))) (dRet (dCB (rSortKD true) (dCons (dSlot 5) dNil)))) dNext) (dSeq (dWhile (dB (dOp (rEqD2 true) (dSlot 6) (dLst true dNil))) (dSeq (dAsg (dPop (dSlot 6)) (dgName 8)) (dIfS (dB (dOp (rInDm true) (dSlot 8) (dSlot 5))) (dSeq (dAsg (dC (.bl true)) (dgSub (dSlot 5) (dSlot 8) rSetKD)) (dDrop (dExtend (dSlot 6) (dCall1 sp_ends_of_type (dCons (dOp rIxD (dSlot 0) (dC (.int 1))) (dCons (dSlot 1) (dCons (dSlot 8) dNil))))))) dNext))) (dRet (dCB (rSortKD true) (dCons (dSlot 5) dNil))))))))))
abbrev st_is_const : Stmt := topS 42
abbrev N_is_const : List Str := ["value"]
theorem sc_is_const : FnScope N_is_const ["value"] (defScope st_is_const) := ⟨rfl, rfl, rfl, by decide +kernel, rfl, by decide +kernel, by decide +kernel⟩
def r_is_const (sp_is_type : DS1) (sp_is_text : DS1) (sp_ends_of_type : DS1) : DTS := (dSeq (dIfS (dOrT (dB (dOp (rEqD2 true) (dCB rLen (dCons (dSlot 0) dNil)) (dC (.int 4)))) (dNotT (dB (dCall1 sp_is_type (dCons (dOp rIxD (dSlot 0) (dC (.int 1))) dNil))))) (dRet (dC (.bl false))) dNext) (dSeq (dIfS (dOrT (dNotT (dB (dCall1 sp_is_text (dCons (dOp rIxD (dSlot 0) (dC (.int 2))) (dCons (dC v_MOST_SIGNS_lenses) dNil))))) (dNotT (dB (dCall1 sp_is_text (dCons (dOp rIxD (dSlot 0) (dC (.int 3))) (dCons (dC v_MOST_SIGNS_lenses) dNil)))))) (dRet (dC (.bl false))) dNext) (dRet (dOp (rInD false) (dCB rLen (dCons (dOp rIxD (dSlot 0) (dC (.int 3))) dNil)) (dCall1 sp_ends_of_type (dCons (dOp rIxD (dSlot 0) (dC (.int 1))) (dCons (dOp rIxD (dSlot 0) (dC (.int 3))) (dCons (dC (.int 0)) dNil))))))))
abbrev st_many_in : Stmt := topS 43
abbrev N_many_in : List Str := ["value", "deep", "total", "part", "many"]
theorem sc_many_in : FnScope N_many_in ["value", "deep"] (defScope st_many_in) := ⟨rfl, rfl, rfl, by decide +kernel, rfl, by decide +kernel, by decide +kernel⟩
def r_many_in (sp_is_type : DS1) (sp_is_const : DS1) (sp_many_in : DS1) : DTS := (dSeq (dIfS (dOrT (dB (dOp (rEqD2 false) (dSlot 1) (dC (.int 0)))) (dOrT (dNotT (dB (dIsi "tuple" (dSlot 0)))) (dOrT (dB (dOp rLtD (dCB rLen (dCons (dSlot 0) dNil)) (dC (.int 2)))) (dNotT (dB (dIsi "str" (dOp rIxD (dSlot 0) (dC (.int 0))))))))) (dRet (dC (.int 0))) dNext) (dSeq (dIfS (dB (dOp (rEqD2 false) (dOp rIxD (dSlot 0) (dC (.int 0))) (dC v_COPY))) (dRet (dCB rIntD (dCons (dAndV (dOp (rEqD2 false) (dCB rLen (dCons (dSlot 0) dNil)) (dC (.int 2))) (dCall1 sp_is_type (dCons (dOp rIxD (dSlot 0) (dC (.int 1))) dNil))) dNil))) dNext) (dSeq (dIfS (dB (dOp (rEqD2 false) (dOp rIxD (dSlot 0) (dC (.int 0))) (dC v_CONST))) (dRet (dCB rIntD (dCons (dCall1 sp_is_const (dCons (dSlot 0) dNil)) dNil))) dNext) (dSeq (dIfS (dNotT (dOrT (dAndT (dB (dOp (rInD false) (dOp rIxD (dSlot 0) (dC (.int 0))) (dC v_ONE_PART))) (dB (dOp (rEqD2 false) (dCB rLen (dCons (dSlot 0) dNil)) (dC (.int 2))))) (dAndT (dB (dOp (rInD false) (dOp rIxD (dSlot 0) (dC (.int 0))) (dC v_TWO_PARTS))) (dB (dOp (rEqD2 false) (dCB rLen (dCons (dSlot 0) dNil)) (dC (.int 3))))))) (dRet (dC (.int 0))) dNext) (dSeq (dAsg (dC (.int 1)) (dgName 2)) (dSeq (dFor (dIt (dSl true (dSlot 0) (dPart (dC (.int 1))) dNoPart)) (dgName 3) (dSeq (dAsg (dCall1 sp_many_in (dCons (dSlot 3) (dCons (dOp (rInt (fun _ _ => True) fun i j => .int (i - j)) (dSlot 1) (dC (.int 1))) dNil))) (dgName 4)) (dSeq (dAsg (dOp (rAddD true) (dSlot 2) (dSlot 4)) (dgName 2)) (dIfS (dOrT (dB (dOp (rEqD2 false) (dSlot 4) (dC (.int 0)))) (dB (dOp (rInt (fun _ _ => True) fun i j => .bl (decide (j < i))) (dSlot 2) (dC v_MOST_PROGRAMS)))) (dRet (dC (.int 0))) dNext)))) (dRet (dSlot 2))))))))
abbrev st_type_of_text : Stmt := topS 44
abbrev N_type_of_text : List Str := ["text"]
theorem sc_type_of_text : FnScope N_type_of_text ["text"] (defScope st_type_of_text) := ⟨rfl, rfl, rfl, by decide +kernel, rfl, by decide +kernel, by decide +kernel⟩
def r_type_of_text (sp_type_of_text : DS1) : DTS := (dSeq (dIfS (dB (dOp (rInt (fun _ _ => True) fun i j => .bl (decide (i ≤ j))) (dCB rLen (dCons (dSlot 0) dNil)) (dC v_MOST_SHORT))) (dRet (dTup (dCons (dC v_TEXT) (dCons (dSlot 0) dNil)))) dNext) (dRet (dTup (dCons (dC v_CAT) (dCons (dTup (dCons (dC v_TEXT) (dCons (dSl true (dSlot 0) dNoPart (dPart (dC v_MOST_SHORT))) dNil))) (dCons (dCall1 sp_type_of_text (dCons (dSl true (dSlot 0) (dPart (dC v_MOST_SHORT)) dNoPart) dNil)) dNil))))))
abbrev st_types_of : Stmt := topS 45
abbrev N_types_of : List Str := ["program", "word", "source", "view", "later_source", "later_view"]
theorem sc_types_of : FnScope N_types_of ["program"] (defScope st_types_of) := ⟨rfl, rfl, rfl, by decide +kernel, rfl, by decide +kernel, by decide +kernel⟩
def r_types_of (sp_type_of_text : DS1) (sp_types_of : DS1) : DTS := (dSeq (dAsg (dOp rIxD (dSlot 0) (dC (.int 0))) (dgName 1)) (dSeq (dIfS (dB (dOp (rEqD2 false) (dSlot 1) (dC v_COPY))) (dRet (dTup (dCons (dOp rIxD (dSlot 0) (dC (.int 1))) (dCons (dOp rIxD (dSlot 0) (dC (.int 1))) dNil)))) dNext) (dSeq (dIfS (dB (dOp (rEqD2 false) (dSlot 1) (dC v_CONST))) (dRet (dTup (dCons (dOp rIxD (dSlot 0) (dC (.int 1))) (dCons (dCall1 sp_type_of_text (dCons (dOp rIxD (dSlot 0) (dC (.int 2))) dNil)) dNil)))) dNext) (dSeq (dAsg (dCall1 sp_types_of (dCons (dOp rIxD (dSlot 0) (dC (.int 1))) dNil)) (dgTup 2 (dgCons (dgName 2) (dgCons (dgName 3) dgNil)))) (dSeq (dIfS (dB (dOp (rInD false) (dSlot 1) (dC v_ROWED))) (dRet (dTup (dCons (dTup (dCons (dC v_STAR) (dCons (dSlot 2) dNil))) (dCons (dTup (dCons (dC v_STAR) (dCons (dSlot 3) dNil))) dNil)))) dNext) (dSeq (dAsg (dCall1 sp_types_of (dCons (dOp rIxD (dSlot 0) (dC (.int 2))) dNil)) (dgTup 2 (dgCons (dgName 4) (dgCons (dgName 5) dgNil)))) (dSeq (dIfS (dB (dOp (rEqD2 false) (dSlot 1) (dC v_CAT))) (dRet (dTup (dCons (dTup (dCons (dC v_CAT) (dCons (dSlot 2) (dCons (dSlot 4) dNil)))) (dCons (dTup (dCons (dC v_CAT) (dCons (dSlot 3) (dCons (dSlot 5) dNil)))) dNil)))) dNext) (dSeq (dIfS (dB (dOp (rEqD2 false) (dSlot 1) (dC v_SWAP))) (dRet (dTup (dCons (dTup (dCons (dC v_CAT) (dCons (dSlot 2) (dCons (dSlot 4) dNil)))) (dCons (dTup (dCons (dC v_CAT) (dCons (dSlot 5) (dCons (dSlot 3) dNil)))) dNil)))) dNext) (dSeq (dIfS (dB (dOp (rEqD2 false) (dSlot 1) (dC v_OR))) (dRet (dTup (dCons (dTup (dCons (dC v_OR) (dCons (dSlot 2) (dCons (dSlot 4) dNil)))) (dCons (dTup (dCons (dC v_OR) (dCons (dSlot 3) (dCons (dSlot 5) dNil)))) dNil)))) dNext) (dRet (dTup (dCons (dSlot 2) (dCons (dSlot 5) dNil)))))))))))))
abbrev st_are_types_fine : Stmt := topS 46
abbrev N_are_types_fine : List Str := ["program", "one"]
theorem sc_are_types_fine : FnScope N_are_types_fine ["program"] (defScope st_are_types_fine) := ⟨rfl, rfl, rfl, by decide +kernel, rfl, by decide +kernel, by decide +kernel⟩
def r_are_types_fine (sp_types_of : DS1) (sp_is_type : DS1) (sp_programs_in : DS1) (sp_are_types_fine : DS1) : DTS := (dSeq (dIfS (dNotT (dB (dCB rAllD (dCons (dLc true (dIt (dCall1 sp_types_of (dCons (dSlot 0) dNil))) (dgName 1) dYes (dCall1 sp_is_type (dCons (dSlot 1) dNil)) [1]) dNil)))) (dRet (dC (.bl false))) dNext) (dRet (dCB rAllD (dCons (dLc true (dIt (dCall1 sp_programs_in (dCons (dSlot 0) dNil))) (dgName 1) dYes (dCall1 sp_are_types_fine (dCons (dSlot 1) dNil)) [1]) dNil))))
abbrev st_is_program : Stmt := topS 47
abbrev N_is_program : List Str := ["value"]
theorem sc_is_program : FnScope N_is_program ["value"] (defScope st_is_program) := ⟨rfl, rfl, rfl, by decide +kernel, rfl, by decide +kernel, by decide +kernel⟩
def r_is_program (sp_are_types_fine : DS1) (sp_many_in : DS1) : DTS := (dRet (dAndV (dOp (rInt (fun _ _ => True) fun i j => .bl (decide (j < i))) (dCall1 sp_many_in (dCons (dSlot 0) (dCons (dC v_MOST_DEEP_lenses) dNil))) (dC (.int 0))) (dCall1 sp_are_types_fine (dCons (dSlot 0) dNil))))
abbrev st_check_program : Stmt := topS 48
abbrev N_check_program : List Str := ["value"]
theorem sc_check_program : FnScope N_check_program ["value"] (defScope st_check_program) := ⟨rfl, rfl, rfl, by decide +kernel, rfl, by decide +kernel, by decide +kernel⟩
def r_check_program (E1 : DXK) (sp_is_program : DS1) : DTS := (dIfS (dNotT (dB (dCall1 sp_is_program (dCons (dSlot 0) dNil)))) (dRaise "BadLens" (dSlot 0) E1) dNext)
abbrev st_source_type : Stmt := topS 49
abbrev N_source_type : List Str := ["program"]
theorem sc_source_type : FnScope N_source_type ["program"] (defScope st_source_type) := ⟨rfl, rfl, rfl, by decide +kernel, rfl, by decide +kernel, by decide +kernel⟩
def r_source_type (E1 : DXK) (sp_check_program : DSp) (sp_types_of : DS1) : DTS := (dSeq (dDrop (dCallE sp_check_program (dCons (dSlot 0) dNil) E1)) (dRet (dOp rIxD (dCall1 sp_types_of (dCons (dSlot 0) dNil)) (dC (.int 0)))))
abbrev st_view_type : Stmt := topS 50
abbrev N_view_type : List Str := ["program"]
theorem sc_view_type : FnScope N_view_type ["program"] (defScope st_view_type) := ⟨rfl, rfl, rfl, by decide +kernel, rfl, by decide +kernel, by decide +kernel⟩
def r_view_type (E1 : DXK) (sp_check_program : DSp) (sp_types_of : DS1) : DTS := (dSeq (dDrop (dCallE sp_check_program (dCons (dSlot 0) dNil) E1)) (dRet (dOp rIxD (dCall1 sp_types_of (dCons (dSlot 0) dNil)) (dC (.int 1)))))
abbrev st__law_pot : Stmt := topS 52
abbrev N__law_pot : List Str := ["script", "place", "cell", "own", "small"]
theorem sc__law_pot : FnScope N__law_pot ["script", "place"] (defScope st__law_pot) := ⟨rfl, rfl, rfl, by decide +kernel, rfl, by decide +kernel, by decide +kernel⟩
def r__law_pot : DTS := (dSeq (dAsg (dIf (dB (dOp rLtD (dSlot 1) (dCB rLen (dCons (dSlot 0) dNil)))) (dOp rIxD (dSlot 0) (dSlot 1)) (dOp (rAddD true) (dOp (rAddD true) (dOp (rInt (fun _ j => 0 < j) fun i j => .int (i % j)) (dCB rSumD (dCons (dSl true (dSlot 0) dNoPart (dPart (dC (.int 1)))) dNil)) (dC (.int 1000003))) (dOp (rMulD true) (dC (.int 4021)) (dSlot 1))) (dC (.int 431)))) (dgName 2)) (dSeq (dAsg (dOp (rMulD true) (dOp (rInt (fun _ j => 0 < j) fun i j => .int (i % j)) (dCB rIntD (dCons (dCB rAbsD (dCons (dSlot 2) dNil)) dNil)) (dOp rPowD (dOp rPowD (dC (.int 10)) (dC (.int 60))) (dC (.int 5)))) (dCB rIntD (dCons (dOp (rInt (fun _ _ => True) fun i j => .bl (decide (j ≤ i))) (dCB rAbsD (dCons (dSlot 2) dNil)) (dOp rPowD (dC (.int 10)) (dC (.int 18)))) dNil))) (dgName 3)) (dSeq (dAsg (dOp (rInt (fun _ j => 0 < j) fun i j => .int (i % j)) (dCB rIntD (dCons (dSlot 2) dNil)) (dC (.int 2305843009213693951))) (dgName 4)) (dRet (dLst false (dCons (dSlot 3) (dCons (dOp (rInt (fun _ j => 0 < j) fun i j => .int (i % j)) (dCB rIntD (dCons (dOp (rAddD true) (dOp (rAddD true) (dOp (rMulD true) (dSlot 4) (dC (.int 91639))) (dOp (rMulD true) (dOp (rMulD true) (dC (.int 8423)) (dSlot 1)) (dSlot 1))) (dC (.int 838))) dNil)) (dC (.int 2305843009213693921))) (dCons (dC (.int 0)) dNil))))))))
abbrev st__law_take : Stmt := topS 53
abbrev N__law_take : List Str := ["pot", "upto", "prime", "blend", "digit"]
theorem sc__law_take : FnScope N__law_take ["pot", "upto"] (defScope st__law_take) := ⟨rfl, rfl, rfl, by decide +kernel, rfl, by decide +kernel, by decide +kernel⟩
def r__law_take : DTS := (dSeq (dIfS (dB (dOp (rInt (fun _ _ => True) fun i j => .bl (decide (j < i))) (dOp rIxD (dSlot 0) (dC (.int 0))) (dC (.int 0)))) (dSeq (dAsg (dOp (rInt (fun _ j => 0 < j) fun i j => .int (i % j)) (dCB rIntD (dCons (dOp rIxD (dSlot 0) (dC (.int 0))) dNil)) (dSlot 1)) (dgName 4)) (dSeq (dAsg (dOp (rInt (fun _ j => 0 < j ∧ j.natAbs < 2 ^ 64) fun i j => .int (i / j)) (dOp rIxD (dSlot 0) (dC (.int 0))) (dSlot 1)) (dgSub (dSlot 0) (dC (.int 0)) rSetD)) (dRet (dSlot 4)))) dNext) (dSeq (dAsg (dOp (rAddD true) (dOp rIxD (dSlot 0) (dC (.int 2))) (dC (.int 1))) (dgSub (dSlot 0) (dC (.int 2)) rSetD)) (dSeq (dAsg (dOp rIxD (dLst true (dCons (dC (.int 2147483647)) (dCons (dC (.int 2147483629)) (dCons (dC (.int 2147483587)) (dCons (dC (.int 2147483579)) (dCons (dC (.int 2147483563)) dNil)))))) (dOp (rInt (fun _ j => 0 < j) fun i j => .int (i % j)) (dCB rIntD (dCons (dOp rIxD (dSlot 0) (dC (.int 2))) dNil)) (dC (.int 5)))) (dgName 2)) (dSeq (dAsg (dOp (rInt (fun _ j => 0 < j) fun i j => .int (i % j)) (dCB rIntD (dCons (dOp rPowD (dCB rIntD (dCons (dOp (rAddD true) (dOp (rAddD true) (dOp rIxD (dSlot 0) (dC (.int 1))) (dOp (rMulD true) (dOp (rMulD true) (dC (.int 88792)) (dOp rIxD (dSlot 0) (dC (.int 2)))) (dOp rIxD (dSlot 0) (dC (.int 2))))) (dC (.int 638))) dNil)) (dC (.int 3))) dNil)) (dSlot 2)) (dgName 3)) (dSeq (dAsg (dOp (rInt (fun _ j => 0 < j) fun i j => .int (i % j)) (dCB rIntD (dCons (dOp (rMulD true) (dSlot 3) (dOp (rAddD true) (dOp (rInt (fun _ j => 0 < j) fun i j => .int (i % j)) (dCB rIntD (dCons (dSlot 3) dNil)) (dC (.int 10259))) (dOp (rMulD true) (dC (.int 122)) (dOp rIxD (dSlot 0) (dC (.int 2)))))) dNil)) (dC (.int 2305843009213693907))) (dgName 3)) (dRet (dOp (rInt (fun _ j => 0 < j) fun i j => .int (i % j)) (dCB rIntD (dCons (dOp (rInt (fun _ j => 0 < j ∧ j.natAbs < 2 ^ 64) fun i j => .int (i / j)) (dSlot 3) (dC (.int 152))) dNil)) (dSlot 1))))))))
abbrev st__law_of : Stmt := topS 54
abbrev N__law_of : List Str := ["pot", "some"]
theorem sc__law_of : FnScope N__law_of ["pot", "some"] (defScope st__law_of) := ⟨rfl, rfl, rfl, by decide +kernel, rfl, by decide +kernel, by decide +kernel⟩
def r__law_of (sp__law_take : DS1) : DTS := (dRet (dOp rIxD (dSlot 1) (dCall1 sp__law_take (dCons (dSlot 0) (dCons (dCB rLen (dCons (dSlot 1) dNil)) dNil)))))
abbrev st__law_places : Stmt := topS 55
abbrev N__law_places : List Str := ["script", "most"]
theorem sc__law_places : FnScope N__law_places ["script", "most"] (defScope st__law_places) := ⟨rfl, rfl, rfl, by decide +kernel, rfl, by decide +kernel, by decide +kernel⟩
def r__law_places : DTS := (dRet (dListRg true (dCB rMax2D (dCons (dC (.int 1)) (dCons (dCB rMin2D (dCons (dSlot 1) (dCons (dCB rLen (dCons (dSlot 0) dNil)) dNil))) dNil)))))
abbrev st__law_odd : Stmt := topS 57
abbrev N__law_odd : List Str := ["pot", "some"]
theorem sc__law_odd : FnScope N__law_odd ["pot"] (defScope st__law_odd) := ⟨rfl, rfl, rfl, by decide +kernel, rfl, by decide +kernel, by decide +kernel⟩
def r__law_odd (sp__law_of : DS1) : DTS := (dSeq (dAsg (dLst true (dCons (dC .non) (dCons (dC (.bl true)) (dCons (dC (.bl false)) (dCons (dC (.int 0)) (dCons (dC (.int 1)) (dCons (dNeg (dC (.int 1))) (dCons (dC (.int 2)) (dCons (dC (.int 44)) (dCons (dC (.str "")) (dCons (dC (.str "a")) (dCons (dC (.str "A")) (dCons (dC (.str "text")) (dCons (dC (.str "copy")) (dCons (dTup dNil) (dCons (dLst true dNil) (dCons (dTup (dCons (dC (.int 0)) dNil)) (dCons (dTup (dCons (dTup dNil) dNil)) (dCons (dLst true (dCons (dC (.int 0)) dNil)) (dCons (dTup (dCons (dC (.str "a")) dNil)) dNil)))))))))))))))))))) (dgName 1)) (dSeq (dAsg (dOp (rAddD true) (dSlot 1) (dLst true (dCons (dTup (dCons (dC (.str "text")) (dCons (dC (.str "a")) dNil))) (dCons (dTup (dCons (dC (.str "copy")) (dCons (dTup (dCons (dC (.str "text")) (dCons (dC (.str "a")) dNil))) dNil))) (dCons (dTup (dCons (dC .non) dNil)) (dCons (dLst true (dCons (dC (.str "a")) dNil)) (dCons (dOp (rMulD true) (dC (.str "a")) (dC (.int 401))) (dCons (dC (.str "/")) (dCons (dTup (dCons (dC (.str "none")) dNil)) dNil))))))))) (dgName 1)) (dRet (dCall1 sp__law_of (dCons (dSlot 0) (dCons (dSlot 1) dNil))))))
abbrev st__law_bent : Stmt := topS 58
abbrev N__law_bent : List Str := ["pot", "value", "at", "some"]
theorem sc__law_bent : FnScope N__law_bent ["pot", "value"] (defScope st__law_bent) := ⟨rfl, rfl, rfl, by decide +kernel, rfl, by decide +kernel, by decide +kernel⟩
def r__law_bent (sp__law_take : DS1) (sp__law_bent : DS1) (sp__law_of : DS1) (sp__law_odd : DS1) : DTS := (dSeq (dIfS (dAndT (dB (dIsi "tuple" (dSlot 1))) (dAndT (dB (dOp (rEqD2 true) (dSlot 1) (dTup dNil))) (dB (dOp (rInt (fun _ _ => True) fun i j => .bl (decide (j < i))) (dCall1 sp__law_take (dCons (dSlot 0) (dCons (dC (.int 5)) dNil))) (dC (.int 0)))))) (dSeq (dAsg (dCall1 sp__law_take (dCons (dSlot 0) (dCons (dCB rLen (dCons (dSlot 1) dNil)) dNil))) (dgName 2)) (dRet (dOp (rAddD true) (dOp (rAddD true) (dSl true (dSlot 1) dNoPart (dPart (dSlot 2))) (dTup (dCons (dCall1 sp__law_bent (dCons (dSlot 0) (dCons (dOp rIxD (dSlot 1) (dSlot 2)) dNil))) dNil))) (dSl true (dSlot 1) (dPart (dOp (rAddD true) (dSlot 2) (dC (.int 1)))) dNoPart)))) dNext) (dSeq (dIfS (dB (dIsi "tuple" (dSlot 1))) (dRet (dCall1 sp__law_of (dCons (dSlot 0) (dCons (dLst true (dCons (dCB (rListD true) (dCons (dSlot 1) dNil)) (dCons (dSl true (dSlot 1) (dPart (dC (.int 1))) dNoPart) (dCons (dSl true (dSlot 1) dNoPart (dPart (dNeg (dC (.int 1))))) (dCons (dOp (rAddD true) (dSlot 1) (dSl true (dSlot 1) (dPart (dNeg (dC (.int 1)))) dNoPart)) (dCons (dRevS true (dSlot 1)) (dCons (dTup dNil) (dCons (dC .non) dNil)))))))) dNil)))) dNext) (dSeq (dIfS (dB (dIsi "bool" (dSlot 1))) (dRet (dCall1 sp__law_of (dCons (dSlot 0) (dCons (dLst true (dCons (dNotV (dSlot 1)) (dCons (dCB rIntD (dCons (dSlot 1) dNil)) (dCons (dC .non) dNil)))) dNil)))) dNext) (dSeq (dIfS (dB (dIsi "int" (dSlot 1))) (dRet (dCall1 sp__law_of (dCons (dSlot 0) (dCons (dLst true (dCons (dOp (rAddD true) (dSlot 1) (dC (.int 1))) (dCons (dOp (rInt (fun _ _ => True) fun i j => .int (i - j)) (dSlot 1) (dC (.int 1))) (dCons (dNeg (dSlot 1)) (dCons (dCB rStrD (dCons (dSlot 1) dNil)) (dCons (dC .non) (dCons (dOp (rEqD2 false) (dSlot 1) (dC (.int 1))) (dCons (dTup (dCons (dSlot 1) dNil)) dNil)))))))) dNil)))) dNext) (dSeq (dIfS (dB (dIsi "str" (dSlot 1))) (dSeq (dAsg (dLst true (dCons (dOp (rAddD true) (dSlot 1) (dC (.str "a"))) (dCons (dSl true (dSlot 1) dNoPart (dPart (dNeg (dC (.int 1))))) (dCons (dUpper (dSlot 1)) (dCons (dLst true (dCons (dSlot 1) dNil)) (dCons (dC (.str "a")) (dCons (dC .non) (dCons (dC (.int 0)) (dCons (dC (.str "")) (dCons (dOp (rAddD true) (dC (.str "b")) (dSlot 1)) (dCons (dOp (rAddD true) (dSlot 1) (dC (.str "/"))) dNil))))))))))) (dgName 3)) (dRet (dCall1 sp__law_of (dCons (dSlot 0) (dCons (dSlot 3) dNil))))) dNext) (dRet (dCall1 sp__law_odd (dCons (dSlot 0) dNil))))))))
abbrev st__law_ends : Stmt := topS 59
abbrev N__law_ends : List Str := ["term", "text", "begin", "word", "end", "found", "waiting", "middle", "place"]
theorem sc__law_ends : FnScope N__law_ends ["term", "text", "begin"] (defScope st__law_ends) := ⟨rfl, rfl, rfl, by decide +kernel, rfl, by decide +kernel, by decide +kernel⟩
def r__law_ends (sp__law_ends : DS1) : DTS := (dSeq (dAsg (dOp rIxD (dSlot 0) (dC (.int 0))) (dgName 3)) (dSeq (dIfS (dB (dOp (rEqD2 false) (dSlot 3) (dC (.str "text")))) (dSeq (dAsg (dOp (rAddD true) (dSlot 2) (dCB rLen (dCons (dOp rIxD (dSlot 0) (dC (.int 1))) dNil))) (dgName 4)) (dRet (dIf (dB (dOp (rEqD2 false) (dSl true (dSlot 1) (dPart (dSlot 2)) (dPart (dSlot 4))) (dOp rIxD (dSlot 0) (dC (.int 1))))) (dLst true (dCons (dSlot 4) dNil)) (dLst true dNil)))) dNext) (dSeq (dIfS (dB (dOp (rEqD2 false) (dSlot 3) (dC (.str "sign")))) (dRet (dIf (dAndT (dB (dOp rLtD (dSlot 2) (dCB rLen (dCons (dSlot 1) dNil)))) (dB (dOp (rInD false) (dOp rIxD (dSlot 1) (dSlot 2)) (dOp rIxD (dSlot 0) (dC (.int 1)))))) (dLst true (dCons (dOp (rAddD true) (dSlot 2) (dC (.int 1))) dNil)) (dLst true dNil))) dNext) (dSeq (dIfS (dB (dOp (rEqD2 false) (dSlot 3) (dC (.str "or")))) (dRet (dSortSetI true (dOp (rAddD true) (dCall1 sp__law_ends (dCons (dOp rIxD (dSlot 0) (dC (.int 1))) (dCons (dSlot 1) (dCons (dSlot 2) dNil)))) (dCall1 sp__law_ends (dCons (dOp rIxD (dSlot 0) (dC (.int 2))) (dCons (dSlot 1) (dCons (dSlot 2) dNil))))))) dNext) (dSeq (dPar 5 6 (dCons (dLst false dNil) (dCons (dLst false (dCons (dSlot 2) dNil)) dNil))) (dSeq (dIfS (dB (dOp (rEqD2 false) (dSlot 3) (dC (.str "cat")))) (dSeq (dFor (dIt (dCall1 sp__law_ends (dCons (dOp rIxD (dSlot 0) (dC (.int 1))) (dCons (dSlot 1) (dCons (dSlot 2) dNil))))) (dgName 7) (dDrop (dExtend (dSlot 5) (dCall1 sp__law_ends (dCons (dOp rIxD (dSlot 0) (dC (.int 2))) (dCons (dSlot 1) (dCons (dSlot 7) dNil))))))) (dRet (dSortSetI true (dSlot 5)))) dNext) (dSeq (dWhile (dB (dOp (rEqD2 true) (dSlot 6) (dLst true dNil))) (dSeq (dAsg (dPop (dSlot 6)) (dgName 8)) (dIfS (dB (dOp (rInD true) (dSlot 8) (dSlot 5))) (dSeq (dDrop (dAppend (dSlot 5) (dSlot 8))) (dDrop (dExtend (dSlot 6) (dCall1 sp__law_ends (dCons (dOp rIxD (dSlot 0) (dC (.int 1))) (dCons (dSlot 1) (dCons (dSlot 8) dNil))))))) dNext))) (dRet (dCB (rSortI true) (dCons (dSlot 5) dNil))))))))))
abbrev st__law_has : Stmt := topS 60
abbrev N__law_has : List Str := ["term", "text"]
theorem sc__law_has : FnScope N__law_has ["term", "text"] (defScope st__law_has) := ⟨rfl, rfl, rfl, by decide +kernel, rfl, by decide +kernel, by decide +kernel⟩
def r__law_has (sp__law_ends : DS1) : DTS := (dRet (dOp (rInD false) (dCB rLen (dCons (dSlot 1) dNil)) (dCall1 sp__law_ends (dCons (dSlot 0) (dCons (dSlot 1) (dCons (dC (.int 0)) dNil))))))
abbrev st__law_lens_text_type : Stmt := topS 61
abbrev N__law_lens_text_type : List Str := ["text"]
theorem sc__law_lens_text_type : FnScope N__law_lens_text_type ["text"] (defScope st__law_lens_text_type) := ⟨rfl, rfl, rfl, by decide +kernel, rfl, by decide +kernel, by decide +kernel⟩
def r__law_lens_text_type (sp__law_lens_text_type : DS1) : DTS := (dRet (dIf (dB (dOp rLtD (dCB rLen (dCons (dSlot 0) dNil)) (dC (.int 21)))) (dTup (dCons (dC (.str "text")) (dCons (dSlot 0) dNil))) (dTup (dCons (dC (.str "cat")) (dCons (dTup (dCons (dC (.str "text")) (dCons (dSl true (dSlot 0) dNoPart (dPart (dC (.int 20)))) dNil))) (dCons (dCall1 sp__law_lens_text_type (dCons (dSl true (dSlot 0) (dPart (dC (.int 20))) dNoPart) dNil)) dNil))))))
abbrev st__law_lens_types : Stmt := topS 62
abbrev N__law_lens_types : List Str := ["program", "word", "source", "view", "other", "last"]
theorem sc__law_lens_types : FnScope N__law_lens_types ["program"] (defScope st__law_lens_types) := ⟨rfl, rfl, rfl, by decide +kernel, rfl, by decide +kernel, by decide +kernel⟩
def r__law_lens_types (sp__law_lens_text_type : DS1) (sp__law_lens_types : DS1) : DTS := (dSeq (dAsg (dOp rIxD (dSlot 0) (dC (.int 0))) (dgName 1)) (dSeq (dIfS (dB (dOp (rInD false) (dSlot 1) (dTup (dCons (dC (.str "copy")) (dCons (dC (.str "const")) dNil))))) (dRet (dTup (dCons (dOp rIxD (dSlot 0) (dC (.int 1))) (dCons (dIf (dB (dOp (rEqD2 false) (dSlot 1) (dC (.str "copy")))) (dOp rIxD (dSlot 0) (dC (.int 1))) (dCall1 sp__law_lens_text_type (dCons (dOp rIxD (dSlot 0) (dC (.int 2))) dNil))) dNil)))) dNext) (dSeq (dAsg (dCall1 sp__law_lens_types (dCons (dOp rIxD (dSlot 0) (dC (.int 1))) dNil)) (dgTup 2 (dgCons (dgName 2) (dgCons (dgName 3) dgNil)))) (dSeq (dIfS (dB (dOp (rInD false) (dSlot 1) (dTup (dCons (dC (.str "star")) (dCons (dC (.str "keyed")) dNil))))) (dRet (dTup (dCons (dTup (dCons (dC (.str "star")) (dCons (dSlot 2) dNil))) (dCons (dTup (dCons (dC (.str "star")) (dCons (dSlot 3) dNil))) dNil)))) dNext) (dSeq (dAsg (dCall1 sp__law_lens_types (dCons (dOp rIxD (dSlot 0) (dC (.int 2))) dNil)) (dgTup 2 (dgCons (dgName 4) (dgCons (dgName 5) dgNil)))) (dSeq (dIfS (dB (dOp (rEqD2 false) (dSlot 1) (dC (.str "then")))) (dRet (dTup (dCons (dSlot 2) (dCons (dSlot 5) dNil)))) dNext) (dSeq (dIfS (dB (dOp (rEqD2 false) (dSlot 1) (dC (.str "swap")))) (dRet (dTup (dCons (dTup (dCons (dC (.str "cat")) (dCons (dSlot 2) (dCons (dSlot 4) dNil)))) (dCons (dTup (dCons (dC (.str "cat")) (dCons (dSlot 5) (dCons (dSlot 3) dNil)))) dNil)))) dNext) (dRet (dTup (dCons (dTup (dCons (dSlot 1) (dCons (dSlot 2) (dCons (dSlot 4) dNil)))) (dCons (dTup (dCons (dSlot 1) (dCons (dSlot 3) (dCons (dSlot 5) dNil)))) dNil)))))))))))
abbrev st__law_lens_any : Stmt := topS 63
abbrev N__law_lens_any : List Str := ["pot", "term", "loops", "word", "lap"]
theorem sc__law_lens_any : FnScope N__law_lens_any ["pot", "term", "loops"] (defScope st__law_lens_any) := ⟨rfl, rfl, rfl, by decide +kernel, rfl, by decide +kernel, by decide +kernel⟩
def r__law_lens_any (sp__law_of : DS1) (sp__law_lens_any : DS1) (sp__law_take : DS1) : DTS := (dSeq (dAsg (dOp rIxD (dSlot 1) (dC (.int 0))) (dgName 3)) (dSeq (dIfS (dB (dOp (rEqD2 false) (dSlot 3) (dC (.str "text")))) (dRet (dOp rIxD (dSlot 1) (dC (.int 1)))) dNext) (dSeq (dIfS (dB (dOp (rEqD2 false) (dSlot 3) (dC (.str "sign")))) (dRet (dCall1 sp__law_of (dCons (dSlot 0) (dCons (dOp rIxD (dSlot 1) (dC (.int 1))) dNil)))) dNext) (dSeq (dIfS (dB (dOp (rEqD2 false) (dSlot 3) (dC (.str "or")))) (dRet (dCall1 sp__law_lens_any (dCons (dSlot 0) (dCons (dOp rIxD (dSlot 1) (dOp (rAddD true) (dC (.int 1)) (dCall1 sp__law_take (dCons (dSlot 0) (dCons (dC (.int 2)) dNil))))) (dCons (dSlot 2) dNil))))) dNext) (dSeq (dIfS (dB (dOp (rEqD2 false) (dSlot 3) (dC (.str "cat")))) (dRet (dOp (rAddD true) (dCall1 sp__law_lens_any (dCons (dSlot 0) (dCons (dOp rIxD (dSlot 1) (dC (.int 1))) (dCons (dSlot 2) dNil)))) (dCall1 sp__law_lens_any (dCons (dSlot 0) (dCons (dOp rIxD (dSlot 1) (dC (.int 2))) (dCons (dSlot 2) dNil)))))) dNext) (dRet (dJoin (dC (.str "")) (dLc true (dRange1 (dCall1 sp__law_take (dCons (dSlot 0) (dCons (dOp (rAddD true) (dSlot 2) (dC (.int 1))) dNil)))) (dgName 4) dYes (dCall1 sp__law_lens_any (dCons (dSlot 0) (dCons (dOp rIxD (dSlot 1) (dC (.int 1))) (dCons (dSlot 2) dNil)))) [4]))))))))
abbrev st__law_lens_type : Stmt := topS 64
abbrev N__law_lens_type : List Str := ["pot", "deep", "one", "other", "way", "word"]
theorem sc__law_lens_type : FnScope N__law_lens_type ["pot", "deep"] (defScope st__law_lens_type) := ⟨rfl, rfl, rfl, by decide +kernel, rfl, by decide +kernel, by decide +kernel⟩
def r__law_lens_type (sp__law_take : DS1) (sp__law_of : DS1) (sp__law_lens_type : DS1) : DTS := (dSeq (dPar 4 5 (dCons (dCall1 sp__law_take (dCons (dSlot 0) (dCons (dIf (dB (dOp (rInt (fun _ _ => True) fun i j => .bl (decide (j < i))) (dSlot 1) (dC (.int 0)))) (dC (.int 8)) (dC (.int 4))) dNil))) (dCons (dTup (dCons (dC (.str "star")) (dCons (dTup (dCons (dC (.str "sign")) (dCons (dC (.str "ab")) dNil))) dNil))) dNil))) (dSeq (dIfS (dB (dOp rLtD (dSlot 4) (dC (.int 4)))) (dRet (dOp rIxD (dLst true (dCons (dSlot 5) (dCons (dTup (dCons (dC (.str "sign")) (dCons (dC (.str "ab")) dNil))) (dCons (dTup (dCons (dC (.str "text")) (dCons (dCall1 sp__law_of (dCons (dSlot 0) (dCons (dLst true (dCons (dC (.str "")) (dCons (dC (.str "a")) (dCons (dC (.str "b")) (dCons (dC (.str "ab")) (dCons (dC (.str ",")) dNil)))))) dNil))) dNil))) (dCons (dTup (dCons (dC (.str "star")) (dCons (dTup (dCons (dC (.str "text")) (dCons (dC (.str "ab")) dNil))) dNil))) dNil))))) (dSlot 4))) dNext) (dSeq (dAsg (dCall1 sp__law_lens_type (dCons (dSlot 0) (dCons (dOp (rInt (fun _ _ => True) fun i j => .int (i - j)) (dSlot 1) (dC (.int 1))) dNil))) (dgName 2)) (dSeq (dIfS (dB (dOp (rEqD2 false) (dSlot 4) (dC (.int 4)))) (dRet (dTup (dCons (dC (.str "star")) (dCons (dTup (dCons (dC (.str "cat")) (dCons (dSlot 2) (dCons (dTup (dCons (dC (.str "text")) (dCons (dCall1 sp__law_of (dCons (dSlot 0) (dCons (dLst true (dCons (dC (.str ";")) (dCons (dC (.str ";")) (dCons (dC (.str "a")) dNil)))) dNil))) dNil))) dNil)))) dNil)))) dNext) (dSeq (dAsg (dCall1 sp__law_lens_type (dCons (dSlot 0) (dCons (dOp (rInt (fun _ _ => True) fun i j => .int (i - j)) (dSlot 1) (dC (.int 1))) dNil))) (dgName 3)) (dSeq (dIfS (dB (dOp (rEqD2 false) (dSlot 4) (dC (.int 5)))) (dRet (dTup (dCons (dC (.str "cat")) (dCons (dSlot 2) (dCons (dTup (dCons (dC (.str "cat")) (dCons (dTup (dCons (dC (.str "text")) (dCons (dCall1 sp__law_of (dCons (dSlot 0) (dCons (dLst true (dCons (dC (.str ",")) (dCons (dC (.str ",")) (dCons (dC (.str "-")) (dCons (dC (.str "b")) dNil))))) dNil))) dNil))) (dCons (dSlot 3) dNil)))) dNil))))) dNext) (dSeq (dIfS (dB (dOp (rEqD2 false) (dSlot 4) (dC (.int 6)))) (dRet (dTup (dCons (dC (.str "or")) (dCons (dTup (dCons (dC (.str "cat")) (dCons (dTup (dCons (dC (.str "text")) (dCons (dC (.str "a")) dNil))) (dCons (dSlot 2) dNil)))) (dCons (dTup (dCons (dC (.str "cat")) (dCons (dTup (dCons (dC (.str "text")) (dCons (dCall1 sp__law_of (dCons (dSlot 0) (dCons (dLst true (dCons (dC (.str "b")) (dCons (dC (.str "b")) (dCons (dC (.str "a")) dNil)))) dNil))) dNil))) (dCons (dSlot 3) dNil)))) dNil))))) dNext) (dRet (dTup (dCons (dC (.str "cat")) (dCons (dSlot 2) (dCons (dSlot 3) dNil))))))))))))
abbrev st__law_lens_over : Stmt := topS 65
abbrev N__law_lens_over : List Str := ["pot", "term", "one", "word", "way"]
theorem sc__law_lens_over : FnScope N__law_lens_over ["pot", "term"] (defScope st__law_lens_over) := ⟨rfl, rfl, rfl, by decide +kernel, rfl, by decide +kernel, by decide +kernel⟩
def r__law_lens_over (sp__law_take : DS1) (sp__law_lens_any_d : DS1) (sp__law_of : DS1) (sp__law_lens_over : DS1) (sp__law_lens_types : DS1) : DTS := (dSeq (dPar 3 4 (dCons (dOp rIxD (dSlot 1) (dC (.int 0))) (dCons (dCall1 sp__law_take (dCons (dSlot 0) (dCons (dC (.int 6)) dNil))) dNil))) (dSeq (dIfS (dOrT (dB (dOp (rEqD2 false) (dSlot 4) (dC (.int 0)))) (dAndT (dB (dOp (rInD false) (dSlot 3) (dTup (dCons (dC (.str "text")) (dCons (dC (.str "sign")) dNil))))) (dB (dOp rLtD (dSlot 4) (dC (.int 4)))))) (dRet (dTup (dCons (dC (.str "copy")) (dCons (dSlot 1) dNil)))) dNext) (dSeq (dIfS (dOrT (dB (dOp (rEqD2 false) (dSlot 4) (dC (.int 1)))) (dB (dOp (rInD false) (dSlot 3) (dTup (dCons (dC (.str "text")) (dCons (dC (.str "sign")) dNil)))))) (dRet (dTup (dCons (dC (.str "const")) (dCons (dSlot 1) (dCons (dCall1 sp__law_of (dCons (dSlot 0) (dCons (dLst true (dCons (dC (.str "")) (dCons (dC (.str "")) (dCons (dC (.str "a")) (dCons (dC (.str "-")) (dCons (dC (.str "b")) (dCons (dC (.str ";")) dNil))))))) dNil))) (dCons (dCall (quiet sp__law_lens_any_d) [.int 2] (dCons (dSlot 0) (dCons (dSlot 1) dNil))) dNil)))))) dNext) (dSeq (dAsg (dCall1 sp__law_lens_over (dCons (dSlot 0) (dCons (dOp rIxD (dSlot 1) (dC (.int 1))) dNil))) (dgName 2)) (dSeq (dIfS (dB (dOp (rEqD2 false) (dSlot 3) (dC (.str "star")))) (dRet (dIf (dB (dOp (rEqD2 false) (dSlot 4) (dC (.int 2)))) (dTup (dCons (dC (.str "keyed")) (dCons (dSlot 2) (dCons (dCall1 sp__law_lens_over (dCons (dSlot 0) (dCons (dOp rIxD (dCall1 sp__law_lens_types (dCons (dSlot 2) dNil)) (dC (.int 1))) dNil))) dNil)))) (dTup (dCons (dC (.str "star")) (dCons (dSlot 2) dNil))))) dNext) (dRet (dTup (dCons (dIf (dAndT (dB (dOp (rEqD2 false) (dSlot 3) (dC (.str "cat")))) (dB (dOp (rEqD2 false) (dSlot 4) (dC (.int 2))))) (dC (.str "swap")) (dSlot 3)) (dCons (dSlot 2) (dCons (dCall1 sp__law_lens_over (dCons (dSlot 0) (dCons (dOp rIxD (dSlot 1) (dC (.int 2))) dNil))) dNil))))))))))
abbrev st__law_lens_drawn : Stmt := topS 66
abbrev N__law_lens_drawn : List Str := ["pot", "deep", "found"]
theorem sc__law_lens_drawn : FnScope N__law_lens_drawn ["pot", "deep"] (defScope st__law_lens_drawn) := ⟨rfl, rfl, rfl, by decide +kernel, rfl, by decide +kernel, by decide +kernel⟩
def r__law_lens_drawn (sp__law_lens_over : DS1) (sp__law_lens_type : DS1) (sp__law_take : DS1) (sp__law_lens_types : DS1) : DTS := (dSeq (dAsg (dCall1 sp__law_lens_over (dCons (dSlot 0) (dCons (dCall1 sp__law_lens_type (dCons (dSlot 0) (dCons (dSlot 1) dNil))) dNil))) (dgName 2)) (dSeq (dIfS (dB (dOp (rInt (fun _ _ => True) fun i j => .bl (decide (j < i))) (dCall1 sp__law_take (dCons (dSlot 0) (dCons (dC (.int 5)) dNil))) (dC (.int 0)))) (dRet (dSlot 2)) dNext) (dRet (dTup (dCons (dC (.str "then")) (dCons (dSlot 2) (dCons (dCall1 sp__law_lens_over (dCons (dSlot 0) (dCons (dOp rIxD (dCall1 sp__law_lens_types (dCons (dSlot 2) dNil)) (dC (.int 1))) dNil))) dNil)))))))
abbrev st__law_lens_parts : Stmt := topS 67
abbrev N__law_lens_parts : List Str := ["program", "address", "found", "at", "inner"]
theorem sc__law_lens_parts : FnScope N__law_lens_parts ["program", "address"] (defScope st__law_lens_parts) := ⟨rfl, rfl, rfl, by decide +kernel, rfl, by decide +kernel, by decide +kernel⟩
def r__law_lens_parts (sp__law_lens_parts : DS1) : DTS := (dSeq (dAsg (dLst false dNil) (dgName 2)) (dSeq (dFor (dEnumT (dIf (dB (dOp (rInD false) (dOp rIxD (dSlot 0) (dC (.int 0))) (dTup (dCons (dC (.str "copy")) (dCons (dC (.str "const")) dNil))))) (dTup dNil) (dSl true (dSlot 0) (dPart (dC (.int 1))) dNoPart))) (dgTup 2 (dgCons (dgName 3) (dgCons (dgName 4) dgNil))) (dDrop (dExtend (dSlot 2) (dCall1 sp__law_lens_parts (dCons (dSlot 4) (dCons (dOp (rAddD true) (dSlot 1) (dTup (dCons (dSlot 3) dNil))) dNil)))))) (dRet (dOp (rAddD true) (dSlot 2) (dLst true (dCons (dTup (dCons (dSlot 1) (dCons (dSlot 0) dNil))) dNil))))))
abbrev st__law_type_size : Stmt := topS 68
abbrev N__law_type_size : List Str := ["value", "deep", "sizes", "is_right", "part", "sign"]
theorem sc__law_type_size : FnScope N__law_type_size ["value", "deep"] (defScope st__law_type_size) := ⟨rfl, rfl, rfl, by decide +kernel, rfl, by decide +kernel, by decide +kernel⟩
def r__law_type_size (sp__law_type_size : DS1) : DTS := (dSeq (dIfS (dOrT (dB (dOp (rEqD2 false) (dSlot 1) (dC (.int 0)))) (dOrT (dNotT (dB (dIsi "tuple" (dSlot 0)))) (dOrT (dB (dOp (rInD true) (dCB rLen (dCons (dSlot 0) dNil)) (dTup (dCons (dC (.int 2)) (dCons (dC (.int 3)) dNil))))) (dNotT (dB (dIsi "str" (dOp rIxD (dSlot 0) (dC (.int 0))))))))) (dRet (dC (.int 0))) dNext) (dSeq (dIfS (dB (dOp (rInD false) (dOp rIxD (dSlot 0) (dC (.int 0))) (dTup (dCons (dC (.str "text")) (dCons (dC (.str "sign")) dNil))))) (dSeq (dIfS (dOrT (dB (dOp (rEqD2 true) (dCB rLen (dCons (dSlot 0) dNil)) (dC (.int 2)))) (dNotT (dB (dIsi "str" (dOp rIxD (dSlot 0) (dC (.int 1))))))) (dRet (dC (.int 0))) dNext) (dSeq (dIfS (dNotT (dB (dCB rAllD (dCons (dLc true (dIt (dOp rIxD (dSlot 0) (dC (.int 1)))) (dgName 5) dYes (dOp (rInD false) (dSlot 5) (dC (.str "\x0a ,-.0123456789:;=abcdefghijklmnopqrstuvwxyz"))) [5]) dNil)))) (dRet (dC (.int 0))) dNext) (dSeq (dAsg (dIf (dB (dOp (rEqD2 false) (dOp rIxD (dSlot 0) (dC (.int 0))) (dC (.str "text")))) (dOp rLtD (dCB rLen (dCons (dOp rIxD (dSlot 0) (dC (.int 1))) dNil)) (dC (.int 21))) (dChain (rEqD2 false) (rEqD2 true) (dCB (rListS true) (dCons (dOp rIxD (dSlot 0) (dC (.int 1))) dNil)) (dSortSet true (dOp rIxD (dSlot 0) (dC (.int 1)))) (dLst true dNil))) (dgName 3)) (dRet (dCB rIntD (dCons (dSlot 3) dNil)))))) dNext) (dSeq (dIfS (dB (dOp (rEqD2 true) (dCB rLen (dCons (dSlot 0) dNil)) (dGetC [("cat", 3), ("or", 3), ("star", 2)] (dOp rIxD (dSlot 0) (dC (.int 0))) 0))) (dRet (dC (.int 0))) dNext) (dSeq (dAsg (dLc true (dIt (dSl true (dSlot 0) (dPart (dC (.int 1))) dNoPart)) (dgName 4) dYes (dCall1 sp__law_type_size (dCons (dSlot 4) (dCons (dOp (rInt (fun _ _ => True) fun i j => .int (i - j)) (dSlot 1) (dC (.int 1))) dNil))) [4]) (dgName 2)) (dRet (dIf (dB (dOp (rInD false) (dC (.int 0)) (dSlot 2))) (dC (.int 0)) (dOp (rAddD true) (dC (.int 1)) (dCB rSumD (dCons (dSlot 2) dNil)))))))))
abbrev st__law_is_type : Stmt := topS 69
abbrev N__law_is_type : List Str := ["value"]
theorem sc__law_is_type : FnScope N__law_is_type ["value"] (defScope st__law_is_type) := ⟨rfl, rfl, rfl, by decide +kernel, rfl, by decide +kernel, by decide +kernel⟩
def r__law_is_type (sp__law_type_size : DS1) : DTS := (dRet (dChain rLtD rLtD (dC (.int 0)) (dCall1 sp__law_type_size (dCons (dSlot 0) (dCons (dC (.int 30)) dNil))) (dC (.int 121))))
abbrev st__law_is_text : Stmt := topS 70
abbrev N__law_is_text : List Str := ["value", "most", "sign"]
theorem sc__law_is_text : FnScope N__law_is_text ["value", "most"] (defScope st__law_is_text) := ⟨rfl, rfl, rfl, by decide +kernel, rfl, by decide +kernel, by decide +kernel⟩
def r__law_is_text : DTS := (dSeq (dIfS (dOrT (dNotT (dB (dIsi "str" (dSlot 0)))) (dB (dOp (rInt (fun _ _ => True) fun i j => .bl (decide (j < i))) (dCB rLen (dCons (dSlot 0) dNil)) (dSlot 1)))) (dRet (dC (.bl false))) dNext) (dRet (dCB rAllD (dCons (dLc true (dIt (dSlot 0)) (dgName 2) dYes (dOp (rInD false) (dSlot 2) (dC (.str "\x0a ,-.0123456789:;=abcdefghijklmnopqrstuvwxyz"))) [2]) dNil))))
abbrev st__law_size : Stmt := topS 71
abbrev N__law_size : List Str := ["value", "deep", "many", "sizes", "part"]
theorem sc__law_size : FnScope N__law_size ["value", "deep"] (defScope st__law_size) := ⟨rfl, rfl, rfl, by decide +kernel, rfl, by decide +kernel, by decide +kernel⟩
def r__law_size (sp__law_is_type : DS1) (sp__law_is_text : DS1) (sp__law_has : DS1) (sp__law_size : DS1) : DTS := (dSeq (dIfS (dOrT (dB (dOp (rEqD2 false) (dSlot 1) (dC (.int 0)))) (dOrT (dNotT (dB (dIsi "tuple" (dSlot 0)))) (dOrT (dB (dOp rLtD (dCB rLen (dCons (dSlot 0) dNil)) (dC (.int 2)))) (dNotT (dB (dIsi "str" (dOp rIxD (dSlot 0) (dC (.int 0))))))))) (dRet (dC (.int 0))) dNext) (dSeq (dIfS (dB (dOp (rEqD2 false) (dOp rIxD (dSlot 0) (dC (.int 0))) (dC (.str "copy")))) (dRet (dCB rIntD (dCons (dAndV (dOp (rEqD2 false) (dCB rLen (dCons (dSlot 0) dNil)) (dC (.int 2))) (dCall1 sp__law_is_type (dCons (dOp rIxD (dSlot 0) (dC (.int 1))) dNil))) dNil))) dNext) (dSeq (dIfS (dB (dOp (rEqD2 false) (dOp rIxD (dSlot 0) (dC (.int 0))) (dC (.str "const")))) (dSeq (dIfS (dOrT (dB (dOp (rEqD2 true) (dCB rLen (dCons (dSlot 0) dNil)) (dC (.int 4)))) (dOrT (dNotT (dB (dCall1 sp__law_is_type (dCons (dOp rIxD (dSlot 0) (dC (.int 1))) dNil)))) (dNotT (dB (dCall1 sp__law_is_text (dCons (dOp rIxD (dSlot 0) (dC (.int 2))) (dCons (dC (.int 100)) dNil))))))) (dRet (dC (.int 0))) dNext) (dRet (dCB rIntD (dCons (dAndV (dCall1 sp__law_is_text (dCons (dOp rIxD (dSlot 0) (dC (.int 3))) (dCons (dC (.int 100)) dNil))) (dCall1 sp__law_has (dCons (dOp rIxD (dSlot 0) (dC (.int 1))) (dCons (dOp rIxD (dSlot 0) (dC (.int 3))) dNil)))) dNil)))) dNext) (dSeq (dAsg (dGetC [("cat", 3), ("swap", 3), ("or", 3), ("star", 2), ("keyed", 3), ("then", 3)] (dOp rIxD (dSlot 0) (dC (.int 0))) 0) (dgName 2)) (dSeq (dIfS (dB (dOp (rEqD2 true) (dCB rLen (dCons (dSlot 0) dNil)) (dSlot 2))) (dRet (dC (.int 0))) dNext) (dSeq (dAsg (dLc true (dIt (dSl true (dSlot 0) (dPart (dC (.int 1))) dNoPart)) (dgName 4) dYes (dCall1 sp__law_size (dCons (dSlot 4) (dCons (dOp (rInt (fun _ _ => True) fun i j => .int (i - j)) (dSlot 1) (dC (.int 1))) dNil))) [4]) (dgName 3)) (dRet (dIf (dB (dOp (rInD false) (dC (.int 0)) (dSlot 3))) (dC (.int 0)) (dOp (rAddD true) (dC (.int 1)) (dCB rSumD (dCons (dSlot 3) dNil)))))))))))
abbrev st__law_is_program : Stmt := topS 72
abbrev N__law_is_program : List Str := ["value", "address", "part", "term"]
theorem sc__law_is_program : FnScope N__law_is_program ["value"] (defScope st__law_is_program) := ⟨rfl, rfl, rfl, by decide +kernel, rfl, by decide +kernel, by decide +kernel⟩
def r__law_is_program (sp__law_size : DS1) (sp__law_lens_parts : DS1) (sp__law_lens_types : DS1) (sp__law_is_type : DS1) : DTS := (dSeq (dIfS (dNotT (dB (dChain rLtD rLtD (dC (.int 0)) (dCall1 sp__law_size (dCons (dSlot 0) (dCons (dC (.int 20)) dNil))) (dC (.int 81))))) (dRet (dC (.bl false))) dNext) (dSeq (dFor (dIt (dCall1 sp__law_lens_parts (dCons (dSlot 0) (dCons (dTup dNil) dNil)))) (dgTup 2 (dgCons (dgName 1) (dgCons (dgName 2) dgNil))) (dIfS (dNotT (dB (dCB rAllD (dCons (dLc true (dIt (dCall1 sp__law_lens_types (dCons (dSlot 2) dNil))) (dgName 3) dYes (dCall1 sp__law_is_type (dCons (dSlot 3) dNil)) [3]) dNil)))) (dRet (dC (.bl false))) dNext)) (dRet (dC (.bl true)))))
abbrev st__law_row : Stmt := topS 73
abbrev N__law_row : List Str := ["many", "found", "lap"]
theorem sc__law_row : FnScope N__law_row ["many"] (defScope st__law_row) := ⟨rfl, rfl, rfl, by decide +kernel, rfl, by decide +kernel, by decide +kernel⟩
def r__law_row : DTS := (dSeq (dAsg (dLc true (dRange1 (dSlot 0)) (dgName 2) dYes (dTup (dCons (dC (.str "copy")) (dCons (dTup (dCons (dC (.str "text")) (dCons (dC (.str "a")) dNil))) dNil))) [2]) (dgName 1)) (dSeq (dWhile (dB (dOp (rInt (fun _ _ => True) fun i j => .bl (decide (j < i))) (dCB rLen (dCons (dSlot 1) dNil)) (dC (.int 1)))) (dAsg (dOp (rAddD true) (dSl true (dSlot 1) (dPart (dC (.int 2))) dNoPart) (dLst true (dCons (dTup (dCons (dC (.str "cat")) (dCons (dOp rIxD (dSlot 1) (dC (.int 0))) (dCons (dOp rIxD (dSlot 1) (dC (.int 1))) dNil)))) dNil))) (dgName 1))) (dRet (dOp rIxD (dSlot 1) (dC (.int 0))))))
abbrev st__law_nested : Stmt := topS 74
abbrev N__law_nested : List Str := ["many", "wrap", "found", "lap"]
theorem sc__law_nested : FnScope N__law_nested ["many", "wrap"] (defScope st__law_nested) := ⟨rfl, rfl, rfl, by decide +kernel, rfl, by decide +kernel, by decide +kernel⟩
def r__law_nested (f : Addr) (tl : DTE) : DTS := (dSeq (dAsg (dTup (dCons (dC (.str "copy")) (dCons (dTup (dCons (dC (.str "text")) (dCons (dC (.str "a")) dNil))) dNil))) (dgName 2)) (dSeq (dFor (dRange1 (dOp (rInt (fun _ _ => True) fun i j => .int (i - j)) (dSlot 0) (dC (.int 1)))) (dgName 3) (dAsg (dAppL 1 f tl (dSlot 2)) (dgName 2))) (dRet (dSlot 2))))
abbrev st__law_bounds : Stmt := topS 75
abbrev N__law_bounds : List Str := ["pot", "wide", "found", "many", "deep", "lap", "term"]
theorem sc__law_bounds : FnScope N__law_bounds ["pot"] (defScope st__law_bounds) := ⟨rfl, rfl, rfl, by decide +kernel, rfl, by decide +kernel, by decide +kernel⟩
def r__law_bounds (sp__law_row : DS1) : DTS := (dSeq (dAsg (dTup (dCons (dC (.str "star")) (dCons (dTup (dCons (dC (.str "sign")) (dCons (dC (.str "ab")) dNil))) dNil))) (dgName 1)) (dSeq (dAsg (dLst false (dCons (dTup (dCons (dC (.str "copy")) (dCons (dTup (dCons (dC (.str "cat")) (dCons (dTup (dCons (dC (.str "text")) (dCons (dC (.str "a")) dNil))) (dCons (dSlot 1) dNil)))) dNil))) (dCons (dTup (dCons (dC (.str "const")) (dCons (dTup (dCons (dC (.str "text")) (dCons (dOp (rMulD true) (dC (.str "a")) (dC (.int 20))) dNil))) (dCons (dOp (rMulD true) (dC (.str "b")) (dC (.int 100))) (dCons (dOp (rMulD true) (dC (.str "a")) (dC (.int 20))) dNil))))) dNil))) (dgName 2)) (dSeq (dDrop (dAppend (dSlot 2) (dTup (dCons (dC (.str "const")) (dCons (dTup (dCons (dC (.str "text")) (dCons (dC (.str "a")) dNil))) (dCons (dOp (rMulD true) (dC (.str "b")) (dC (.int 101))) (dCons (dC (.str "a")) dNil))))))) (dSeq (dDrop (dExtend (dSlot 2) (dLc true (dIt (dTup (dCons (dC (.int 100)) (dCons (dC (.int 101)) dNil)))) (dgName 3) dYes (dTup (dCons (dC (.str "const")) (dCons (dSlot 1) (dCons (dC (.str "")) (dCons (dOp (rMulD true) (dC (.str "a")) (dSlot 3)) dNil))))) [3]))) (dSeq (dDrop (dExtend (dSlot 2) (dLst true (dCons (dCall1 sp__law_row (dCons (dC (.int 40)) dNil)) (dCons (dCall1 sp__law_row (dCons (dC (.int 41)) dNil)) (dCons (dTup (dCons (dC (.str "star")) (dCons (dCall1 sp__law_row (dCons (dC (.int 40)) dNil)) dNil))) (dCons (dTup (dCons (dC (.str "star")) (dCons (dTup (dCons (dC (.str "star")) (dCons (dCall1 sp__law_row (dCons (dC (.int 40)) dNil)) dNil))) dNil))) dNil))))))) (dSeq (dFor (dIt (dTup (dCons (dC (.int 20)) (dCons (dC (.int 21)) dNil)))) (dgName 3) (dSeq (dDrop (dAppend (dSlot 2) (dLam2 N__law_nested (fun f => r__law_nested f (dTup (dCons (dC (.str "star")) (dCons (dSlot 0) dNil)))) (dSlot 3)))) (dDrop (dAppend (dSlot 2) (dLam2 N__law_nested (fun f => r__law_nested f (dTup (dCons (dC (.str "or")) (dCons (dSlot 0) (dCons (dTup (dCons (dC (.str "copy")) (dCons (dTup (dCons (dC (.str "text")) (dCons (dC (.str "b")) dNil))) dNil))) dNil))))) (dSlot 3)))))) (dSeq (dFor (dIt (dTup (dCons (dC (.int 30)) (dCons (dC (.int 31)) dNil)))) (dgName 3) (dSeq (dAsg (dTup (dCons (dC (.str "text")) (dCons (dC (.str "a")) dNil))) (dgName 4)) (dSeq (dFor (dRange1 (dOp (rInt (fun _ _ => True) fun i j => .int (i - j)) (dSlot 3) (dC (.int 1)))) (dgName 5) (dAsg (dTup (dCons (dC (.str "star")) (dCons (dSlot 4) dNil))) (dgName 4))) (dDrop (dAppend (dSlot 2) (dTup (dCons (dC (.str "copy")) (dCons (dSlot 4) dNil)))))))) (dSeq (dFor (dIt (dTup (dCons (dC (.int 60)) (dCons (dC (.int 61)) dNil)))) (dgName 3) (dSeq (dAsg (dLc true (dRange1 (dSlot 3)) (dgName 5) dYes (dTup (dCons (dC (.str "text")) (dCons (dC (.str "a")) dNil))) [5]) (dgName 6)) (dSeq (dWhile (dB (dOp (rInt (fun _ _ => True) fun i j => .bl (decide (j < i))) (dCB rLen (dCons (dSlot 6) dNil)) (dC (.int 1)))) (dAsg (dOp (rAddD true) (dSl true (dSlot 6) (dPart (dC (.int 2))) dNoPart) (dLst true (dCons (dTup (dCons (dC (.str "or")) (dCons (dOp rIxD (dSlot 6) (dC (.int 0))) (dCons (dOp rIxD (dSlot 6) (dC (.int 1))) dNil)))) dNil))) (dgName 6))) (dDrop (dAppend (dSlot 2) (dTup (dCons (dC (.str "copy")) (dCons (dOp rIxD (dSlot 6) (dC (.int 0))) dNil)))))))) (dRet (dHold (dSlot 2)))))))))))
abbrev st__law_right : Stmt := topS 76
abbrev N__law_right : List Str := ["value", "is_due", "told", "at", "call", "caught", "back"]
theorem sc__law_right : FnScope N__law_right ["value"] (defScope st__law_right) := ⟨rfl, rfl, rfl, by decide +kernel, rfl, by decide +kernel, by decide +kernel⟩
def r__law_right (f_view_type : Addr) (f_source_type : Addr) (S_call : Addr → DSp → Prop) (sp__law_is_program : DS1) (sp_is_program : DS1) (sp__law_lens_types : DS1) : DTS := (dSeq (dPar 1 2 (dCons (dCall1 sp__law_is_program (dCons (dSlot 0) dNil)) (dCons (dCall1 sp_is_program (dCons (dSlot 0) dNil)) dNil))) (dSeq (dIfS (dOrT (dNotT (dB (dIsi "bool" (dSlot 2)))) (dB (dOp (rEqD2 true) (dSlot 2) (dSlot 1)))) (dRet (dC (.bl false))) dNext) (dSeq (dFor (dEnumT (dTup (dCons (dC (.ref f_source_type)) (dCons (dC (.ref f_view_type)) dNil)))) (dgTup 2 (dgCons (dgName 3) (dgCons (dgName 4) dgNil))) (dSeq (dAsg (dHeard kn fun E1 => (dCallV 4 S_call (dCons (dSlot 0) dNil) E1)) (dgTup 2 (dgCons (dgName 5) (dgCons (dgName 6) dgNil)))) (dSeq (dIfS (dAndT (dB (dSlot 1)) (dOrT (dB (dOp (rIsN true) (dSlot 5) (dC .non))) (dB (dOp (rEqD2 true) (dCB rReprD (dCons (dSlot 6) dNil)) (dCB rReprD (dCons (dOp rIxD (dCall1 sp__law_lens_types (dCons (dSlot 0) dNil)) (dSlot 3)) dNil)))))) (dRet (dC (.bl false))) dNext) (dIfS (dAndT (dNotT (dB (dSlot 1))) (dOrT (dNotT (dB (dIsE kn (isC "BadLens") (dSlot 5)))) (dB (dOp (rEqD2 true) (dCB rReprD (dCons (dExcV kn (dSlot 5)) dNil)) (dCB rReprD (dCons (dSlot 0) dNil)))))) (dRet (dC (.bl false))) dNext)))) (dRet (dC (.bl true))))))
abbrev st_law : Stmt := topS 77
abbrev N_law : List Str := ["script", "place", "pot", "program", "some", "lap", "value"]
theorem sc_law : FnScope N_law ["script"] (defScope st_law) := ⟨rfl, rfl, rfl, by decide +kernel, rfl, by decide +kernel, by decide +kernel⟩
def r_law (sp__law_places : DS1) (sp__law_pot : DS1) (sp__law_lens_drawn : DS1) (sp__law_odd : DS1) (sp__law_bent : DS1) (sp__law_bounds : DS1) (sp__law_right : DS1) : DTS := (dSeq (dFor (dIt (dCall1 sp__law_places (dCons (dSlot 0) (dCons (dC (.int 4)) dNil)))) (dgName 1) (dSeq (dAsg (dCall1 sp__law_pot (dCons (dSlot 0) (dCons (dSlot 1) dNil))) (dgName 2)) (dSeq (dAsg (dCall1 sp__law_lens_drawn (dCons (dSlot 2) (dCons (dC (.int 2)) dNil))) (dgName 3)) (dSeq (dAsg (dLst false (dCons (dSlot 3) (dCons (dCall1 sp__law_odd (dCons (dSlot 2) dNil)) (dCons (dSl true (dSlot 3) (dPart (dC (.int 1))) dNoPart) (dCons (dTup (dCons (dSlot 3) dNil)) (dCons (dOp (rAddD true) (dSlot 3) (dTup (dCons (dSlot 3) dNil))) (dCons (dTup (dCons (dOp rIxD (dSlot 3) (dC (.int 0))) dNil)) dNil))))))) (dgName 4)) (dSeq (dDrop (dExtend (dSlot 4) (dLc true (dRange1 (dC (.int 8))) (dgName 5) dYes (dCall1 sp__law_bent (dCons (dSlot 2) (dCons (dSlot 3) dNil))) [5]))) (dSeq (dIfS (dB (dOp (rEqD2 false) (dSlot 1) (dC (.int 0)))) (dDrop (dExtend (dSlot 4) (dCall1 sp__law_bounds (dCons (dSlot 2) dNil)))) dNext) (dIfS (dNotT (dB (dCB rAllD (dCons (dLc true (dIt (dSlot 4)) (dgName 6) dYes (dCall1 sp__law_right (dCons (dSlot 6) dNil)) [6]) dNil)))) (dRet (dC (.bl false))) dNext))))))) (dRet (dC (.bl true))))
/-- what the text's top leaves, as the walk asks it -/
structure Txt (K : PySem.W.Frag) (mg : Str → Option Value) : Prop where
  m_abs : mg "abs" = none
  m_all : mg "all" = none
  m_bool : mg "bool" = none
  m_enumerate : mg "enumerate" = none
  m_int : mg "int" = none
  m_isinstance : mg "isinstance" = none
  m_len : mg "len" = none
  m_list : mg "list" = none
  m_max : mg "max" = none
  m_min : mg "min" = none
  m_range : mg "range" = none
  m_repr : mg "repr" = none
  m_set : mg "set" = none
  m_sorted : mg "sorted" = none
  m_str : mg "str" = none
  m_sum : mg "sum" = none
  m_tuple : mg "tuple" = none
  m_zip : mg "zip" = none
  g_CAT : Glob K mg "CAT" v_CAT
  g_CONST : Glob K mg "CONST" v_CONST
  g_COPY : Glob K mg "COPY" v_COPY
  g_LEAVES : Glob K mg "LEAVES" v_LEAVES
  g_MOST_DEEP_lenses : Glob K mg "MOST_DEEP_lenses" v_MOST_DEEP_lenses
  g_MOST_DEEP_types : Glob K mg "MOST_DEEP_types" v_MOST_DEEP_types
  g_MOST_LEAF : Glob K mg "MOST_LEAF" v_MOST_LEAF
  g_MOST_NODES : Glob K mg "MOST_NODES" v_MOST_NODES
  g_MOST_PROGRAMS : Glob K mg "MOST_PROGRAMS" v_MOST_PROGRAMS
  g_MOST_SHORT : Glob K mg "MOST_SHORT" v_MOST_SHORT
  g_MOST_SIGNS_lenses : Glob K mg "MOST_SIGNS_lenses" v_MOST_SIGNS_lenses
  g_ONE_PART : Glob K mg "ONE_PART" v_ONE_PART
  g_OR : Glob K mg "OR" v_OR
  g_PAIR : Glob K mg "PAIR" v_PAIR
  g_PAIRS : Glob K mg "PAIRS" v_PAIRS
  g_ROWED : Glob K mg "ROWED" v_ROWED
  g_SIGN : Glob K mg "SIGN" v_SIGN
  g_SIGNS : Glob K mg "SIGNS" v_SIGNS
  g_STAR : Glob K mg "STAR" v_STAR
  g_SWAP : Glob K mg "SWAP" v_SWAP
  g_TEXT : Glob K mg "TEXT" v_TEXT
  g_TRIPLE : Glob K mg "TRIPLE" v_TRIPLE
  g_TWO_PARTS : Glob K mg "TWO_PARTS" v_TWO_PARTS
  g_WORDS : Glob K mg "WORDS" v_WORDS
  h_is_tuple : Has K mg "is_tuple" "is_tuple" st_is_tuple ["value", "least", "most"] []
  h_is_word : Has K mg "is_word" "is_word" st_is_word ["value", "words"] []
  h_is_text : Has K mg "is_text" "is_text" st_is_text ["value", "most"] []
  h_is_leaf : Has K mg "is_leaf" "is_leaf" st_is_leaf ["value"] []
  h_is_node : Has K mg "is_node" "is_node" st_is_node ["value"] []
  h_parts_of : Has K mg "parts_of" "parts_of" st_parts_of ["term"] []
  h_is_type : Has K mg "is_type" "is_type" st_is_type ["value"] []
  h_programs_in : Has K mg "programs_in" "programs_in" st_programs_in ["program"] []
  h_ends_of_type : Has K mg "ends_of_type" "ends_of_type" st_ends_of_type ["term", "text", "begin"] []
  h_is_const : Has K mg "is_const" "is_const" st_is_const ["value"] []
  h_many_in : Has K mg "many_in" "many_in" st_many_in ["value", "deep"] []
  h_type_of_text : Has K mg "type_of_text" "type_of_text" st_type_of_text ["text"] []
  h_types_of : Has K mg "types_of" "types_of" st_types_of ["program"] []
  h_are_types_fine : Has K mg "are_types_fine" "are_types_fine" st_are_types_fine ["program"] []
  h_is_program : Has K mg "is_program" "is_program" st_is_program ["value"] []
  h_check_program : Has K mg "check_program" "check_program" st_check_program ["value"] []
  h_source_type : Has K mg "source_type" "source_type" st_source_type ["program"] []
  h_view_type : Has K mg "view_type" "view_type" st_view_type ["program"] []
  h__law_pot : Has K mg "_law_pot" "_law_pot" st__law_pot ["script", "place"] []
  h__law_take : Has K mg "_law_take" "_law_take" st__law_take ["pot", "upto"] []
  h__law_of : Has K mg "_law_of" "_law_of" st__law_of ["pot", "some"] []
  h__law_places : Has K mg "_law_places" "_law_places" st__law_places ["script", "most"] []
  h__law_heard : Has K mg "_law_heard" "_law_heard" st__law_heard ["call"] []
  h__law_odd : Has K mg "_law_odd" "_law_odd" st__law_odd ["pot"] []
  h__law_bent : Has K mg "_law_bent" "_law_bent" st__law_bent ["pot", "value"] []
  h__law_ends : Has K mg "_law_ends" "_law_ends" st__law_ends ["term", "text", "begin"] []
  h__law_has : Has K mg "_law_has" "_law_has" st__law_has ["term", "text"] []
  h__law_lens_text_type : Has K mg "_law_lens_text_type" "_law_lens_text_type" st__law_lens_text_type ["text"] []
  h__law_lens_types : Has K mg "_law_lens_types" "_law_lens_types" st__law_lens_types ["program"] []
  h__law_lens_any : Has K mg "_law_lens_any" "_law_lens_any" st__law_lens_any ["pot", "term", "loops"] []
  d__law_lens_any : Has K mg "_law_lens_any" "_law_lens_any" st__law_lens_any ["pot", "term", "loops"] [.int 2]
  h__law_lens_type : Has K mg "_law_lens_type" "_law_lens_type" st__law_lens_type ["pot", "deep"] []
  h__law_lens_over : Has K mg "_law_lens_over" "_law_lens_over" st__law_lens_over ["pot", "term"] []
  h__law_lens_drawn : Has K mg "_law_lens_drawn" "_law_lens_drawn" st__law_lens_drawn ["pot", "deep"] []
  h__law_lens_parts : Has K mg "_law_lens_parts" "_law_lens_parts" st__law_lens_parts ["program", "address"] []
  h__law_type_size : Has K mg "_law_type_size" "_law_type_size" st__law_type_size ["value", "deep"] []
  h__law_is_type : Has K mg "_law_is_type" "_law_is_type" st__law_is_type ["value"] []
  h__law_is_text : Has K mg "_law_is_text" "_law_is_text" st__law_is_text ["value", "most"] []
  h__law_size : Has K mg "_law_size" "_law_size" st__law_size ["value", "deep"] []
  h__law_is_program : Has K mg "_law_is_program" "_law_is_program" st__law_is_program ["value"] []
  h__law_row : Has K mg "_law_row" "_law_row" st__law_row ["many"] []
  h__law_nested : Has K mg "_law_nested" "_law_nested" st__law_nested ["many", "wrap"] []
  h__law_bounds : Has K mg "_law_bounds" "_law_bounds" st__law_bounds ["pot"] []
  h__law_right : Has K mg "_law_right" "_law_right" st__law_right ["value"] []
section
variable {P : Program} {w : World} {K : PySem.W.Frag} {mg : Str → Option Value} {base : Heap}
theorem c_is_tuple {k : Nat} {TT : TT8} (T : Txt K mg) {sp : DS1} (read : ∀ ds M Q, sp ds M Q → ds.length = 3 ∧ r_is_tuple { nx := fun _ M' => Q .non M', rt := Q } (dstart N_is_tuple ds) M) : Cal1 P w K TT mg base (k + 1) "is_tuple" sp :=
  dcal1 T.h_is_tuple sc_is_tuple (t := r_is_tuple) (fun f cdv A outer s H E Y E1 hT hr gu g =>
    (dss_one (ds_ret (de_and (de_isi T.m_isinstance T.m_tuple (de_v 0)) (de_one (de_chain od_le od_le (de_v 1) (de_b cd_len T.m_len (da_cons (de_v 0) da_nil)) (de_v 2))))))) read
theorem c_is_word {k : Nat} {TT : TT8} (T : Txt K mg) {sp : DS1} (read : ∀ ds M Q, sp ds M Q → ds.length = 2 ∧ r_is_word { nx := fun _ M' => Q .non M', rt := Q } (dstart N_is_word ds) M) : Cal1 P w K TT mg base (k + 1) "is_word" sp :=
  dcal1 T.h_is_word sc_is_word (t := r_is_word) (fun f cdv A outer s H E Y E1 hT hr gu g =>
    (dss_one (ds_ret (de_and (de_isi T.m_isinstance T.m_str (de_v 0)) (de_one (de_cmp od_in (de_v 0) (de_v 1) (by with_unfolding_all rfl))))))) read
theorem c_is_text {k : Nat} {TT : TT8} (T : Txt K mg) {sp : DS1} (read : ∀ ds M Q, sp ds M Q → ds.length = 2 ∧ r_is_text { nx := fun _ M' => Q .non M', rt := Q } (dstart N_is_text ds) M) : Cal1 P w K TT mg base (k + 1) "is_text" sp :=
  dcal1 T.h_is_text sc_is_text (t := r_is_text) (fun f cdv A outer s H E Y E1 hT hr gu g =>
    (dss_one (ds_ret (de_and (de_isi T.m_isinstance T.m_str (de_v 0)) (de_and (de_cmp od_le (de_b cd_len T.m_len (da_cons (de_v 0) da_nil)) (de_v 1) (nomark _)) (de_one (de_b (cd_all rfl) T.m_all (da_cons (de_lc true (own := [("sign", 2)]) (g := (dgName 2)) (tt := dYes) (te := (dOp (rInD false) (dSlot 2) (dC v_SIGNS))) rfl sc_is_text.nd (di_it (de_v 0)) (blkOk_by (own := [("sign", 2)]) (N := N_is_text) (sc := defScope st_is_text) (by decide +kernel)) (by decide) (fun _ _ _ _ _ => (dg_name (i := 2) sc_is_text.nd rfl (by first | exact Or.inl rfl | exact Or.inr rfl))) (fun _ _ _ _ _ => dts_nil) (fun _ _ _ _ _ => (de_cmp od_in (de_v 2) (de_g T.g_SIGNS) (by with_unfolding_all rfl)))) da_nil)))))))) read
theorem c_is_leaf {k : Nat} {TT : TT8} (T : Txt K mg) {sp_is_text : DS1} (c_is_text : Cal1 P w K TT mg base k "is_text" sp_is_text) {sp : DS1} (read : ∀ ds M Q, sp ds M Q → ds.length = 1 ∧ r_is_leaf sp_is_text { nx := fun _ M' => Q .non M', rt := Q } (dstart N_is_leaf ds) M) : Cal1 P w K TT mg base (k + 1) "is_leaf" sp :=
  dcal1 T.h_is_leaf sc_is_leaf (t := r_is_leaf sp_is_text) (fun f cdv A outer s H E Y E1 hT hr gu g =>
    (dss_cons (ds_if (dt_cmp (od_eq hr) (de_ix (de_v 0) de_int) (de_g T.g_TEXT) (nomark _)) (dss_one (ds_ret (de_call1 (c_is_text.on hT) hr gu g.xt (da_cons (de_ix (de_v 0) de_int) (da_cons (de_g T.g_MOST_LEAF) da_nil))))) dss_nil)
    (dss_cons (ds_if (dt_w (dw_or (dt_not (dt_val (de_call1 (c_is_text.on hT) hr gu g.xt (da_cons (de_ix (de_v 0) de_int) (da_cons (de_b cd_len T.m_len (da_cons (de_g T.g_SIGNS) da_nil)) da_nil))))) (dw_or1 (dt_cmp (od_eq hr) (de_ix (de_v 0) de_int) de_str (nomark _))))) (dss_one (ds_ret de_bl)) dss_nil)
    (dss_one (ds_ret (de_b (cd_all rfl) T.m_all (da_cons (de_lc true (own := [("one", 1), ("other", 2)]) (g := (dgTup 2 (dgCons (dgName 1) (dgCons (dgName 2) dgNil)))) (tt := dYes) (te := (dOp rLtD (dSlot 1) (dSlot 2))) rfl sc_is_leaf.nd (di_zipS T.m_zip (de_ix (de_v 0) de_int) (de_slice true (de_ix (de_v 0) de_int) (do_some de_int) do_none)) (blkOk_by (own := [("one", 1), ("other", 2)]) (N := N_is_leaf) (sc := defScope st_is_leaf) (by decide +kernel)) (by decide) (fun _ _ _ _ _ => (dg_tup rfl (dgs_cons (dg_name (i := 1) sc_is_leaf.nd rfl (by first | exact Or.inl rfl | exact Or.inr rfl)) (dgs_cons (dg_name (i := 2) sc_is_leaf.nd rfl (by first | exact Or.inl rfl | exact Or.inr rfl)) dgs_nil)))) (fun _ _ _ _ _ => dts_nil) (fun _ _ _ _ _ => (de_cmp od_lt (de_v 1) (de_v 2) (nomark _)))) da_nil))))))) read
theorem c_is_node {k : Nat} {TT : TT8} (T : Txt K mg) {sp_is_tuple : DS1} (c_is_tuple : Cal1 P w K TT mg base k "is_tuple" sp_is_tuple) {sp_is_word : DS1} (c_is_word : Cal1 P w K TT mg base k "is_word" sp_is_word) {sp_is_leaf : DS1} (c_is_leaf : Cal1 P w K TT mg base k "is_leaf" sp_is_leaf) {sp : DS1} (read : ∀ ds M Q, sp ds M Q → ds.length = 1 ∧ r_is_node sp_is_tuple sp_is_word sp_is_leaf { nx := fun _ M' => Q .non M', rt := Q } (dstart N_is_node ds) M) : Cal1 P w K TT mg base (k + 1) "is_node" sp :=
  dcal1 T.h_is_node sc_is_node (t := r_is_node sp_is_tuple sp_is_word sp_is_leaf) (fun f cdv A outer s H E Y E1 hT hr gu g =>
    (dss_cons (ds_if (dt_w (dw_or (dt_not (dt_val (de_call1 (c_is_tuple.on hT) hr gu g.xt (da_cons (de_v 0) (da_cons (de_g T.g_PAIR) (da_cons (de_g T.g_TRIPLE) da_nil)))))) (dw_or1 (dt_not (dt_val (de_call1 (c_is_word.on hT) hr gu g.xt (da_cons (de_ix (de_v 0) de_int) (da_cons (de_g T.g_WORDS) da_nil)))))))) (dss_one (ds_ret de_bl)) dss_nil)
    (dss_cons (ds_if (dt_cmp (od_ne hr) (de_b cd_len T.m_len (da_cons (de_v 0) da_nil)) (de_if (dt_cmp od_in (de_ix (de_v 0) de_int) (de_g T.g_PAIRS) (by with_unfolding_all rfl)) (de_g T.g_TRIPLE) (de_g T.g_PAIR)) (nomark _)) (dss_one (ds_ret de_bl)) dss_nil)
    (dss_one (ds_ret (de_or (de_cmp od_notIn (de_ix (de_v 0) de_int) (de_g T.g_LEAVES) (by with_unfolding_all rfl)) (de_one (de_call1 (c_is_leaf.on hT) hr gu g.xt (da_cons (de_v 0) da_nil))))))))) read
theorem c_parts_of {k : Nat} {TT : TT8} (T : Txt K mg) {sp : DS1} (read : ∀ ds M Q, sp ds M Q → ds.length = 1 ∧ r_parts_of { nx := fun _ M' => Q .non M', rt := Q } (dstart N_parts_of ds) M) : Cal1 P w K TT mg base (k + 1) "parts_of" sp :=
  dcal1 T.h_parts_of sc_parts_of (t := r_parts_of) (fun f cdv A outer s H E Y E1 hT hr gu g =>
    (dss_one (ds_ret (de_if (dt_cmp od_in (de_ix (de_v 0) de_int) (de_g T.g_LEAVES) (by with_unfolding_all rfl)) (de_tup da_nil) (de_slice true (de_v 0) (do_some de_int) do_none))))) read
theorem c_is_type {k : Nat} {TT : TT8} (T : Txt K mg) {sp_is_node : DS1} (c_is_node : Cal1 P w K TT mg base k "is_node" sp_is_node) {sp_parts_of : DS1} (c_parts_of : Cal1 P w K TT mg base k "parts_of" sp_parts_of) {sp : DS1} (read : ∀ ds M Q, sp ds M Q → ds.length = 1 ∧ r_is_type sp_is_node sp_parts_of { nx := fun _ M' => Q .non M', rt := Q } (dstart N_is_type ds) M) : Cal1 P w K TT mg base (k + 1) "is_type" sp :=
  dcal1 T.h_is_type sc_is_type (t := r_is_type sp_is_node sp_parts_of) (fun f cdv A outer s H E Y E1 hT hr gu g =>
    (dss_cons (ds_par (i := 1) (j := 2) rfl sc_is_type.nd rfl rfl (by decide) rfl rfl (da_cons (de_lst false (da_cons (de_tup (da_cons (de_v 0) (da_cons de_int da_nil))) da_nil)) (da_cons de_int da_nil)))
    (dss_cons (ds_while (passes_of rfl) (dt_cmp (od_ne hr) (de_v 1) (de_lst true da_nil) (nomark _)) (dss_cons (ds_asg (de_pop (de_v 1)) (dg_tup rfl (dgs_cons (dg_name (i := 3) sc_is_type.nd rfl (by first | exact Or.inl rfl | exact Or.inr rfl)) (dgs_cons (dg_name (i := 4) sc_is_type.nd rfl (by first | exact Or.inl rfl | exact Or.inr rfl)) dgs_nil))))
    (dss_cons (ds_set (i := 2) sc_is_type.nd rfl (by first | exact Or.inl rfl | exact Or.inr rfl) (de_op (od_add true) (de_v 2) de_int))
    (dss_cons (ds_if (dt_w (dw_or (dt_cmp od_gt (de_v 2) (de_g T.g_MOST_NODES) (nomark _)) (dw_or (dt_cmp od_gt (de_v 4) (de_g T.g_MOST_DEEP_types) (nomark _)) (dw_or1 (dt_not (dt_val (de_call1 (c_is_node.on hT) hr gu g.xt (da_cons (de_v 3) da_nil)))))))) (dss_one (ds_ret de_bl)) dss_nil)
    (dss_one (ds_expr (de_extend (de_v 1) (de_lc true (own := [("part", 5)]) (g := (dgName 5)) (tt := dYes) (te := (dTup (dCons (dSlot 5) (dCons (dOp (rAddD true) (dSlot 4) (dC (.int 1))) dNil)))) rfl sc_is_type.nd (di_it (de_call1 (c_parts_of.on hT) hr gu g.xt (da_cons (de_v 3) da_nil))) (blkOk_by (own := [("part", 5)]) (N := N_is_type) (sc := defScope st_is_type) (by decide +kernel)) (by decide) (fun _ _ _ _ _ => (dg_name (i := 5) sc_is_type.nd rfl (by first | exact Or.inl rfl | exact Or.inr rfl))) (fun _ _ _ _ _ => dts_nil) (fun _ _ _ _ _ => (de_tup (da_cons (de_v 5) (da_cons (de_op (od_add true) (de_v 4) de_int) da_nil))))))))))))
    (dss_one (ds_ret de_bl))))) read
theorem c_programs_in {k : Nat} {TT : TT8} (T : Txt K mg) {sp : DS1} (read : ∀ ds M Q, sp ds M Q → ds.length = 1 ∧ r_programs_in { nx := fun _ M' => Q .non M', rt := Q } (dstart N_programs_in ds) M) : Cal1 P w K TT mg base (k + 1) "programs_in" sp :=
  dcal1 T.h_programs_in sc_programs_in (t := r_programs_in) (fun f cdv A outer s H E Y E1 hT hr gu g =>
    (dss_one (ds_ret (de_if (dt_cmp od_in (de_ix (de_v 0) de_int) (de_tup (da_cons (de_g T.g_COPY) (da_cons (de_g T.g_CONST) da_nil))) (by with_unfolding_all rfl)) (de_tup da_nil) (de_slice true (de_v 0) (do_some de_int) do_none))))) read
theorem c_ends_of_type {k : Nat} {TT : TT8} (T : Txt K mg) {sp_ends_of_type : DS1} (c_ends_of_type : Cal1 P w K TT mg base k "ends_of_type" sp_ends_of_type) {sp : DS1} (read : ∀ ds M Q, sp ds M Q → ds.length = 3 ∧ r_ends_of_type sp_ends_of_type { nx := fun _ M' => Q .non M', rt := Q } (dstart N_ends_of_type ds) M) : Cal1 P w K TT mg base (k + 1) "ends_of_type" sp :=
  dcal1 T.h_ends_of_type sc_ends_of_type (t := r_ends_of_type sp_ends_of_type) (fun f cdv A outer s H E Y E1 hT hr gu g =>
    (dss_cons (ds_set (i := 3) sc_ends_of_type.nd rfl (by first | exact Or.inl rfl | exact Or.inr rfl) (de_ix (de_v 0) de_int))
    (dss_cons (ds_if (dt_cmp (od_eq hr) (de_v 3) (de_g T.g_TEXT) (nomark _)) (dss_cons (ds_set (i := 4) sc_ends_of_type.nd rfl (by first | exact Or.inl rfl | exact Or.inr rfl) (de_op (od_add true) (de_v 2) (de_b cd_len T.m_len (da_cons (de_ix (de_v 0) de_int) da_nil))))
    (dss_one (ds_ret (de_if (dt_cmp (od_eq hr) (de_slice true (de_v 1) (do_some (de_v 2)) (do_some (de_v 4))) (de_ix (de_v 0) de_int) (nomark _)) (de_lst true (da_cons (de_v 4) da_nil)) (de_lst true da_nil))))) dss_nil)
    (dss_cons (ds_if (dt_cmp (od_eq hr) (de_v 3) (de_g T.g_SIGN) (nomark _)) (dss_one (ds_ret (de_if (dt_w (dw_and (dt_cmp od_lt (de_v 2) (de_b cd_len T.m_len (da_cons (de_v 1) da_nil)) (nomark _)) (dw_and1 (dt_cmp od_in (de_ix (de_v 1) (de_v 2)) (de_ix (de_v 0) de_int) (by with_unfolding_all rfl))))) (de_lst true (da_cons (de_op (od_add true) (de_v 2) de_int) da_nil)) (de_lst true da_nil)))) dss_nil)
    (dss_cons (ds_if (dt_cmp (od_eq hr) (de_v 3) (de_g T.g_OR) (nomark _)) (dss_one (ds_ret (de_sortSetI true T.m_sorted T.m_set (de_op (od_add true) (de_call1 (c_ends_of_type.on hT) hr gu g.xt (da_cons (de_ix (de_v 0) de_int) (da_cons (de_v 1) (da_cons (de_v 2) da_nil)))) (de_call1 (c_ends_of_type.on hT) hr gu g.xt (da_cons (de_ix (de_v 0) de_int) (da_cons (de_v 1) (da_cons (de_v 2) da_nil)))))))) dss_nil)
    (dss_cons (ds_par (i := 5) (j := 6) rfl sc_ends_of_type.nd rfl rfl (by decide) rfl rfl (da_cons de_dictN (da_cons (de_lst false (da_cons (de_v 2) da_nil)) da_nil)))
    (dss_cons (ds_if (dt_cmp (od_eq hr) (de_v 3) (de_g T.g_CAT) (nomark _)) (dss_cons (ds_for (passes_of rfl) rfl (di_it (de_call1 (c_ends_of_type.on hT) hr gu g.xt (da_cons (de_ix (de_v 0) de_int) (da_cons (de_v 1) (da_cons (de_v 2) da_nil))))) (dg_name (i := 7) sc_ends_of_type.nd rfl (by first | exact Or.inl rfl | exact Or.inr rfl)) (dss_one (ds_expr (de_update (de_v 5) (de_dc (own := [("end", 4)]) (g := (dgName 4)) (tt := dYes) (tk := (dSlot 4)) (te := (dC (.bl true))) rfl sc_ends_of_type.nd (di_it (de_call1 (c_ends_of_type.on hT) hr gu g.xt (da_cons (de_ix (de_v 0) de_int) (da_cons (de_v 1) (da_cons (de_v 7) da_nil))))) (blkOk_by (own := [("end", 4)]) (N := N_ends_of_type) (sc := defScope st_ends_of_type) (by decide +kernel)) (by decide) (fun _ _ _ _ _ => (dg_name (i := 4) sc_ends_of_type.nd rfl (by first | exact Or.inl rfl | exact Or.inr rfl))) (fun _ _ _ _ _ => dts_nil) (fun _ _ _ _ _ => (de_v 4)) (fun _ _ _ _ _ => de_bl))))))
    (dss_one (ds_ret (de_b (cd_sortKD true rfl) T.m_sorted (da_cons (de_v 5) da_nil))))) dss_nil)
    (dss_cons (ds_while (passes_of rfl) (dt_cmp (od_ne hr) (de_v 6) (de_lst true da_nil) (nomark _)) (dss_cons (ds_set (i := 8) sc_ends_of_type.nd rfl (by first | exact Or.inl rfl | exact Or.inr rfl) (de_pop (de_v 6)))
    (dss_one (ds_if (dt_cmpMN hr (de_v 8) (de_v 5) (by with_unfolding_all rfl)) (dss_cons (ds_asg de_bl (dg_sub (de_v 5) (de_v 8) (set_dicD hr)))
    (dss_one (ds_expr (de_extend (de_v 6) (de_call1 (c_ends_of_type.on hT) hr gu g.xt (da_cons (de_ix (de_v 0) de_int) (da_cons (de_v 1) (da_cons (de_v 8) da_nil)))))))) dss_nil))))
    (dss_one (ds_ret (de_b (cd_sortKD true rfl) T.m_sorted (da_cons (de_v 5) da_nil)))))))))))) read
theorem c_is_const {k : Nat} {TT : TT8} (T : Txt K mg) {sp_is_type : DS1} (c_is_type : Cal1 P w K TT mg base k "is_type" sp_is_type) {sp_is_text : DS1} (c_is_text : Cal1 P w K TT mg base k "is_text" sp_is_text) {sp_ends_of_type : DS1} (c_ends_of_type : Cal1 P w K TT mg base k "ends_of_type" sp_ends_of_type) {sp : DS1} (read : ∀ ds M Q, sp ds M Q → ds.length = 1 ∧ r_is_const sp_is_type sp_is_text sp_ends_of_type { nx := fun _ M' => Q .non M', rt := Q } (dstart N_is_const ds) M) : Cal1 P w K TT mg base (k + 1) "is_const" sp :=
  dcal1 T.h_is_const sc_is_const (t := r_is_const sp_is_type sp_is_text sp_ends_of_type) (fun f cdv A outer s H E Y E1 hT hr gu g =>
    (dss_cons (ds_if (dt_w (dw_or (dt_cmp (od_ne hr) (de_b cd_len T.m_len (da_cons (de_v 0) da_nil)) de_int (nomark _)) (dw_or1 (dt_not (dt_val (de_call1 (c_is_type.on hT) hr gu g.xt (da_cons (de_ix (de_v 0) de_int) da_nil))))))) (dss_one (ds_ret de_bl)) dss_nil)
    (dss_cons (ds_if (dt_w (dw_or (dt_not (dt_val (de_call1 (c_is_text.on hT) hr gu g.xt (da_cons (de_ix (de_v 0) de_int) (da_cons (de_g T.g_MOST_SIGNS_lenses) da_nil))))) (dw_or1 (dt_not (dt_val (de_call1 (c_is_text.on hT) hr gu g.xt (da_cons (de_ix (de_v 0) de_int) (da_cons (de_g T.g_MOST_SIGNS_lenses) da_nil)))))))) (dss_one (ds_ret de_bl)) dss_nil)
    (dss_one (ds_ret (de_cmp od_in (de_b cd_len T.m_len (da_cons (de_ix (de_v 0) de_int) da_nil)) (de_call1 (c_ends_of_type.on hT) hr gu g.xt (da_cons (de_ix (de_v 0) de_int) (da_cons (de_ix (de_v 0) de_int) (da_cons de_int da_nil)))) (by with_unfolding_all rfl))))))) read
theorem c_many_in {k : Nat} {TT : TT8} (T : Txt K mg) {sp_is_type : DS1} (c_is_type : Cal1 P w K TT mg base k "is_type" sp_is_type) {sp_is_const : DS1} (c_is_const : Cal1 P w K TT mg base k "is_const" sp_is_const) {sp_many_in : DS1} (c_many_in : Cal1 P w K TT mg base k "many_in" sp_many_in) {sp : DS1} (read : ∀ ds M Q, sp ds M Q → ds.length = 2 ∧ r_many_in sp_is_type sp_is_const sp_many_in { nx := fun _ M' => Q .non M', rt := Q } (dstart N_many_in ds) M) : Cal1 P w K TT mg base (k + 1) "many_in" sp :=
  dcal1 T.h_many_in sc_many_in (t := r_many_in sp_is_type sp_is_const sp_many_in) (fun f cdv A outer s H E Y E1 hT hr gu g =>
    (dss_cons (ds_if (dt_w (dw_or (dt_cmp (od_eq hr) (de_v 1) de_int (nomark _)) (dw_or (dt_not (dt_val (de_isi T.m_isinstance T.m_tuple (de_v 0)))) (dw_or (dt_cmp od_lt (de_b cd_len T.m_len (da_cons (de_v 0) da_nil)) de_int (nomark _)) (dw_or1 (dt_not (dt_val (de_isi T.m_isinstance T.m_str (de_ix (de_v 0) de_int))))))))) (dss_one (ds_ret de_int)) dss_nil)
    (dss_cons (ds_if (dt_cmp (od_eq hr) (de_ix (de_v 0) de_int) (de_g T.g_COPY) (nomark _)) (dss_one (ds_ret (de_bT cd_int T.m_int (da_cons (de_and (de_cmp (od_eq hr) (de_b cd_len T.m_len (da_cons (de_v 0) da_nil)) de_int (nomark _)) (de_one (de_call1 (c_is_type.on hT) hr gu g.xt (da_cons (de_ix (de_v 0) de_int) da_nil)))) da_nil)))) dss_nil)
    (dss_cons (ds_if (dt_cmp (od_eq hr) (de_ix (de_v 0) de_int) (de_g T.g_CONST) (nomark _)) (dss_one (ds_ret (de_bT cd_int T.m_int (da_cons (de_call1 (c_is_const.on hT) hr gu g.xt (da_cons (de_v 0) da_nil)) da_nil)))) dss_nil)
    (dss_cons (ds_if (dt_not (dt_w (dw_or (dt_w (dw_and (dt_cmp od_in (de_ix (de_v 0) de_int) (de_g T.g_ONE_PART) (by with_unfolding_all rfl)) (dw_and1 (dt_cmp (od_eq hr) (de_b cd_len T.m_len (da_cons (de_v 0) da_nil)) de_int (nomark _))))) (dw_or1 (dt_w (dw_and (dt_cmp od_in (de_ix (de_v 0) de_int) (de_g T.g_TWO_PARTS) (by with_unfolding_all rfl)) (dw_and1 (dt_cmp (od_eq hr) (de_b cd_len T.m_len (da_cons (de_v 0) da_nil)) de_int (nomark _))))))))) (dss_one (ds_ret de_int)) dss_nil)
    (dss_cons (ds_set (i := 2) sc_many_in.nd rfl (by first | exact Or.inl rfl | exact Or.inr rfl) de_int)
    (dss_cons (ds_for (passes_of rfl) rfl (di_it (de_slice true (de_v 0) (do_some de_int) do_none)) (dg_name (i := 3) sc_many_in.nd rfl (by first | exact Or.inl rfl | exact Or.inr rfl)) (dss_cons (ds_set (i := 4) sc_many_in.nd rfl (by first | exact Or.inl rfl | exact Or.inr rfl) (de_call1 (c_many_in.on hT) hr gu g.xt (da_cons (de_v 3) (da_cons (de_op od_sub (de_v 1) de_int) da_nil))))
    (dss_cons (ds_set (i := 2) sc_many_in.nd rfl (by first | exact Or.inl rfl | exact Or.inr rfl) (de_op (od_add true) (de_v 2) (de_v 4)))
    (dss_one (ds_if (dt_w (dw_or (dt_cmp (od_eq hr) (de_v 4) de_int (nomark _)) (dw_or1 (dt_cmp od_gt (de_v 2) (de_g T.g_MOST_PROGRAMS) (nomark _))))) (dss_one (ds_ret de_int)) dss_nil)))))
    (dss_one (ds_ret (de_v 2)))))))))) read
theorem c_type_of_text {k : Nat} {TT : TT8} (T : Txt K mg) {sp_type_of_text : DS1} (c_type_of_text : Cal1 P w K TT mg base k "type_of_text" sp_type_of_text) {sp : DS1} (read : ∀ ds M Q, sp ds M Q → ds.length = 1 ∧ r_type_of_text sp_type_of_text { nx := fun _ M' => Q .non M', rt := Q } (dstart N_type_of_text ds) M) : Cal1 P w K TT mg base (k + 1) "type_of_text" sp :=
  dcal1 T.h_type_of_text sc_type_of_text (t := r_type_of_text sp_type_of_text) (fun f cdv A outer s H E Y E1 hT hr gu g =>
    (dss_cons (ds_if (dt_cmp od_le (de_b cd_len T.m_len (da_cons (de_v 0) da_nil)) (de_g T.g_MOST_SHORT) (nomark _)) (dss_one (ds_ret (de_tup (da_cons (de_g T.g_TEXT) (da_cons (de_v 0) da_nil))))) dss_nil)
    (dss_one (ds_ret (de_tup (da_cons (de_g T.g_CAT) (da_cons (de_tup (da_cons (de_g T.g_TEXT) (da_cons (de_slice true (de_v 0) do_none (do_some (de_g T.g_MOST_SHORT))) da_nil))) (da_cons (de_call1 (c_type_of_text.on hT) hr gu g.xt (da_cons (de_slice true (de_v 0) (do_some (de_g T.g_MOST_SHORT)) do_none) da_nil)) da_nil)))))))) read
theorem c_types_of {k : Nat} {TT : TT8} (T : Txt K mg) {sp_type_of_text : DS1} (c_type_of_text : Cal1 P w K TT mg base k "type_of_text" sp_type_of_text) {sp_types_of : DS1} (c_types_of : Cal1 P w K TT mg base k "types_of" sp_types_of) {sp : DS1} (read : ∀ ds M Q, sp ds M Q → ds.length = 1 ∧ r_types_of sp_type_of_text sp_types_of { nx := fun _ M' => Q .non M', rt := Q } (dstart N_types_of ds) M) : Cal1 P w K TT mg base (k + 1) "types_of" sp :=
  dcal1 T.h_types_of sc_types_of (t := r_types_of sp_type_of_text sp_types_of) (fun f cdv A outer s H E Y E1 hT hr gu g =>
    (dss_cons (ds_set (i := 1) sc_types_of.nd rfl (by first | exact Or.inl rfl | exact Or.inr rfl) (de_ix (de_v 0) de_int))
    (dss_cons (ds_if (dt_cmp (od_eq hr) (de_v 1) (de_g T.g_COPY) (nomark _)) (dss_one (ds_ret (de_tup (da_cons (de_ix (de_v 0) de_int) (da_cons (de_ix (de_v 0) de_int) da_nil))))) dss_nil)
    (dss_cons (ds_if (dt_cmp (od_eq hr) (de_v 1) (de_g T.g_CONST) (nomark _)) (dss_one (ds_ret (de_tup (da_cons (de_ix (de_v 0) de_int) (da_cons (de_call1 (c_type_of_text.on hT) hr gu g.xt (da_cons (de_ix (de_v 0) de_int) da_nil)) da_nil))))) dss_nil)
    (dss_cons (ds_asg (de_call1 (c_types_of.on hT) hr gu g.xt (da_cons (de_ix (de_v 0) de_int) da_nil)) (dg_tup rfl (dgs_cons (dg_name (i := 2) sc_types_of.nd rfl (by first | exact Or.inl rfl | exact Or.inr rfl)) (dgs_cons (dg_name (i := 3) sc_types_of.nd rfl (by first | exact Or.inl rfl | exact Or.inr rfl)) dgs_nil))))
    (dss_cons (ds_if (dt_cmp od_in (de_v 1) (de_g T.g_ROWED) (by with_unfolding_all rfl)) (dss_one (ds_ret (de_tup (da_cons (de_tup (da_cons (de_g T.g_STAR) (da_cons (de_v 2) da_nil))) (da_cons (de_tup (da_cons (de_g T.g_STAR) (da_cons (de_v 3) da_nil))) da_nil))))) dss_nil)
    (dss_cons (ds_asg (de_call1 (c_types_of.on hT) hr gu g.xt (da_cons (de_ix (de_v 0) de_int) da_nil)) (dg_tup rfl (dgs_cons (dg_name (i := 4) sc_types_of.nd rfl (by first | exact Or.inl rfl | exact Or.inr rfl)) (dgs_cons (dg_name (i := 5) sc_types_of.nd rfl (by first | exact Or.inl rfl | exact Or.inr rfl)) dgs_nil))))
    (dss_cons (ds_if (dt_cmp (od_eq hr) (de_v 1) (de_g T.g_CAT) (nomark _)) (dss_one (ds_ret (de_tup (da_cons (de_tup (da_cons (de_g T.g_CAT) (da_cons (de_v 2) (da_cons (de_v 4) da_nil)))) (da_cons (de_tup (da_cons (de_g T.g_CAT) (da_cons (de_v 3) (da_cons (de_v 5) da_nil)))) da_nil))))) dss_nil)
    (dss_cons (ds_if (dt_cmp (od_eq hr) (de_v 1) (de_g T.g_SWAP) (nomark _)) (dss_one (ds_ret (de_tup (da_cons (de_tup (da_cons (de_g T.g_CAT) (da_cons (de_v 2) (da_cons (de_v 4) da_nil)))) (da_cons (de_tup (da_cons (de_g T.g_CAT) (da_cons (de_v 5) (da_cons (de_v 3) da_nil)))) da_nil))))) dss_nil)
    (dss_cons (ds_if (dt_cmp (od_eq hr) (de_v 1) (de_g T.g_OR) (nomark _)) (dss_one (ds_ret (de_tup (da_cons (de_tup (da_cons (de_g T.g_OR) (da_cons (de_v 2) (da_cons (de_v 4) da_nil)))) (da_cons (de_tup (da_cons (de_g T.g_OR) (da_cons (de_v 3) (da_cons (de_v 5) da_nil)))) da_nil))))) dss_nil)
    (dss_one (ds_ret (de_tup (da_cons (de_v 2) (da_cons (de_v 5) da_nil))))))))))))))) read
theorem c_are_types_fine {k : Nat} {TT : TT8} (T : Txt K mg) {sp_types_of : DS1} (c_types_of : Cal1 P w K TT mg base k "types_of" sp_types_of) {sp_is_type : DS1} (c_is_type : Cal1 P w K TT mg base k "is_type" sp_is_type) {sp_programs_in : DS1} (c_programs_in : Cal1 P w K TT mg base k "programs_in" sp_programs_in) {sp_are_types_fine : DS1} (c_are_types_fine : Cal1 P w K TT mg base k "are_types_fine" sp_are_types_fine) {sp : DS1} (read : ∀ ds M Q, sp ds M Q → ds.length = 1 ∧ r_are_types_fine sp_types_of sp_is_type sp_programs_in sp_are_types_fine { nx := fun _ M' => Q .non M', rt := Q } (dstart N_are_types_fine ds) M) : Cal1 P w K TT mg base (k + 1) "are_types_fine" sp :=
  dcal1 T.h_are_types_fine sc_are_types_fine (t := r_are_types_fine sp_types_of sp_is_type sp_programs_in sp_are_types_fine) (fun f cdv A outer s H E Y E1 hT hr gu g =>
    (dss_cons (ds_if (dt_not (dt_val (de_b (cd_all rfl) T.m_all (da_cons (de_lc true (own := [("one", 1)]) (g := (dgName 1)) (tt := dYes) (te := (dCall1 sp_is_type (dCons (dSlot 1) dNil))) rfl sc_are_types_fine.nd (di_it (de_call1 (c_types_of.on hT) hr gu g.xt (da_cons (de_v 0) da_nil))) (blkOk_by (own := [("one", 1)]) (N := N_are_types_fine) (sc := defScope st_are_types_fine) (by decide +kernel)) (by decide) (fun _ _ _ _ _ => (dg_name (i := 1) sc_are_types_fine.nd rfl (by first | exact Or.inl rfl | exact Or.inr rfl))) (fun _ _ _ _ _ => dts_nil) (fun _ _ _ _ _ => (de_call1 (c_is_type.on hT) hr gu g.xt (da_cons (de_v 1) da_nil)))) da_nil)))) (dss_one (ds_ret de_bl)) dss_nil)
    (dss_one (ds_ret (de_b (cd_all rfl) T.m_all (da_cons (de_lc true (own := [("one", 1)]) (g := (dgName 1)) (tt := dYes) (te := (dCall1 sp_are_types_fine (dCons (dSlot 1) dNil))) rfl sc_are_types_fine.nd (di_it (de_call1 (c_programs_in.on hT) hr gu g.xt (da_cons (de_v 0) da_nil))) (blkOk_by (own := [("one", 1)]) (N := N_are_types_fine) (sc := defScope st_are_types_fine) (by decide +kernel)) (by decide) (fun _ _ _ _ _ => (dg_name (i := 1) sc_are_types_fine.nd rfl (by first | exact Or.inl rfl | exact Or.inr rfl))) (fun _ _ _ _ _ => dts_nil) (fun _ _ _ _ _ => (de_call1 (c_are_types_fine.on hT) hr gu g.xt (da_cons (de_v 1) da_nil)))) da_nil)))))) read
theorem c_is_program {k : Nat} {TT : TT8} (T : Txt K mg) {sp_are_types_fine : DS1} (c_are_types_fine : Cal1 P w K TT mg base k "are_types_fine" sp_are_types_fine) {sp_many_in : DS1} (c_many_in : Cal1 P w K TT mg base k "many_in" sp_many_in) {sp : DS1} (read : ∀ ds M Q, sp ds M Q → ds.length = 1 ∧ r_is_program sp_are_types_fine sp_many_in { nx := fun _ M' => Q .non M', rt := Q } (dstart N_is_program ds) M) : Cal1 P w K TT mg base (k + 1) "is_program" sp :=
  dcal1 T.h_is_program sc_is_program (t := r_is_program sp_are_types_fine sp_many_in) (fun f cdv A outer s H E Y E1 hT hr gu g =>
    (dss_one (ds_ret (de_and (de_cmp od_gt (de_call1 (c_many_in.on hT) hr gu g.xt (da_cons (de_v 0) (da_cons (de_g T.g_MOST_DEEP_lenses) da_nil))) de_int (nomark _)) (de_one (de_call1 (c_are_types_fine.on hT) hr gu g.xt (da_cons (de_v 0) da_nil))))))) read
theorem c_check_program {k : Nat} {TT : TT8} (T : Txt K mg) (XE : Exs P w K mg base) (hk : 2 ≤ k) {sp_is_program : DS1} (c_is_program : Cal1 P w K TT mg base k "is_program" sp_is_program) {sp : DSp} (read : ∀ ds M Q E, sp ds M Q E → ds.length = 1 ∧ r_check_program E sp_is_program { nx := fun _ M' => Q .non M', rt := Q } (dstart N_check_program ds) M) : Cal P w K TT mg base (k + 1) "check_program" [] sp :=
  dcal T.h_check_program sc_check_program (t := fun E1 => r_check_program E1 sp_is_program) (fun f cdv A outer s H E Y E1 hT hr gu g =>
    (dss_one (ds_if (dt_not (dt_val (de_call1 (c_is_program.on hT) hr gu g.xt (da_cons (de_v 0) da_nil)))) (dss_one (ds_raise XE.x_BadLens (hr.mono hk) g rfl (de_v 0))) dss_nil))) read
theorem c_source_type {k : Nat} {TT : TT8} (T : Txt K mg) {sp_check_program : DSp} (c_check_program : Cal P w K TT mg base k "check_program" [] sp_check_program) {sp_types_of : DS1} (c_types_of : Cal1 P w K TT mg base k "types_of" sp_types_of) {sp : DSp} (read : ∀ ds M Q E, sp ds M Q E → ds.length = 1 ∧ r_source_type E sp_check_program sp_types_of { nx := fun _ M' => Q .non M', rt := Q } (dstart N_source_type ds) M) : Cal P w K TT mg base (k + 1) "source_type" [] sp :=
  dcal T.h_source_type sc_source_type (t := fun E1 => r_source_type E1 sp_check_program sp_types_of) (fun f cdv A outer s H E Y E1 hT hr gu g =>
    (dss_cons (ds_expr (de_callE (c_check_program.on hT) hr gu g (da_cons (de_v 0) da_nil)))
    (dss_one (ds_ret (de_ix (de_call1 (c_types_of.on hT) hr gu g.xt (da_cons (de_v 0) da_nil)) de_int))))) read
theorem c_view_type {k : Nat} {TT : TT8} (T : Txt K mg) {sp_check_program : DSp} (c_check_program : Cal P w K TT mg base k "check_program" [] sp_check_program) {sp_types_of : DS1} (c_types_of : Cal1 P w K TT mg base k "types_of" sp_types_of) {sp : DSp} (read : ∀ ds M Q E, sp ds M Q E → ds.length = 1 ∧ r_view_type E sp_check_program sp_types_of { nx := fun _ M' => Q .non M', rt := Q } (dstart N_view_type ds) M) : Cal P w K TT mg base (k + 1) "view_type" [] sp :=
  dcal T.h_view_type sc_view_type (t := fun E1 => r_view_type E1 sp_check_program sp_types_of) (fun f cdv A outer s H E Y E1 hT hr gu g =>
    (dss_cons (ds_expr (de_callE (c_check_program.on hT) hr gu g (da_cons (de_v 0) da_nil)))
    (dss_one (ds_ret (de_ix (de_call1 (c_types_of.on hT) hr gu g.xt (da_cons (de_v 0) da_nil)) de_int))))) read
theorem c__law_pot {k : Nat} {TT : TT8} (T : Txt K mg) {sp : DS1} (read : ∀ ds M Q, sp ds M Q → ds.length = 2 ∧ r__law_pot { nx := fun _ M' => Q .non M', rt := Q } (dstart N__law_pot ds) M) : Cal1 P w K TT mg base (k + 1) "_law_pot" sp :=
  dcal1 T.h__law_pot sc__law_pot (t := r__law_pot) (fun f cdv A outer s H E Y E1 hT hr gu g =>
    (dss_cons (ds_set (i := 2) sc__law_pot.nd rfl (by first | exact Or.inl rfl | exact Or.inr rfl) (de_if (dt_cmp od_lt (de_v 1) (de_b cd_len T.m_len (da_cons (de_v 0) da_nil)) (nomark _)) (de_ix (de_v 0) (de_v 1)) (de_op (od_add true) (de_op (od_add true) (de_op od_mod (de_b (cd_sum rfl) T.m_sum (da_cons (de_slice true (de_v 0) do_none (do_some de_int)) da_nil)) de_int) (de_op (od_mul true) de_int (de_v 1))) de_int)))
    (dss_cons (ds_set (i := 3) sc__law_pot.nd rfl (by first | exact Or.inl rfl | exact Or.inr rfl) (de_op (od_mul true) (de_op od_mod (de_bT cd_int T.m_int (da_cons (de_b cd_abs T.m_abs (da_cons (de_v 2) da_nil)) da_nil)) (de_op od_pows (de_op od_pows de_int de_int) de_int)) (de_bT cd_int T.m_int (da_cons (de_cmp od_ge (de_b cd_abs T.m_abs (da_cons (de_v 2) da_nil)) (de_op od_pows de_int de_int) (nomark _)) da_nil))))
    (dss_cons (ds_set (i := 4) sc__law_pot.nd rfl (by first | exact Or.inl rfl | exact Or.inr rfl) (de_op od_mod (de_bT cd_int T.m_int (da_cons (de_v 2) da_nil)) de_int))
    (dss_one (ds_ret (de_lst false (da_cons (de_v 3) (da_cons (de_op od_mod (de_bT cd_int T.m_int (da_cons (de_op (od_add true) (de_op (od_add true) (de_op (od_mul true) (de_v 4) de_int) (de_op (od_mul true) (de_op (od_mul true) de_int (de_v 1)) (de_v 1))) de_int) da_nil)) de_int) (da_cons de_int da_nil)))))))))) read
theorem c__law_take {k : Nat} {TT : TT8} (T : Txt K mg) {sp : DS1} (read : ∀ ds M Q, sp ds M Q → ds.length = 2 ∧ r__law_take { nx := fun _ M' => Q .non M', rt := Q } (dstart N__law_take ds) M) : Cal1 P w K TT mg base (k + 1) "_law_take" sp :=
  dcal1 T.h__law_take sc__law_take (t := r__law_take) (fun f cdv A outer s H E Y E1 hT hr gu g =>
    (dss_cons (ds_if (dt_cmp od_gt (de_ix (de_v 0) de_int) de_int (nomark _)) (dss_cons (ds_set (i := 4) sc__law_take.nd rfl (by first | exact Or.inl rfl | exact Or.inr rfl) (de_op od_mod (de_bT cd_int T.m_int (da_cons (de_ix (de_v 0) de_int) da_nil)) (de_v 1)))
    (dss_cons (ds_asg (de_op od_fdiv (de_ix (de_v 0) de_int) (de_v 1)) (dg_sub (de_v 0) de_int set_lstD))
    (dss_one (ds_ret (de_v 4))))) dss_nil)
    (dss_cons (ds_asg (de_op (od_add true) (de_ix (de_v 0) de_int) de_int) (dg_sub (de_v 0) de_int set_lstD))
    (dss_cons (ds_set (i := 2) sc__law_take.nd rfl (by first | exact Or.inl rfl | exact Or.inr rfl) (de_ix (de_lst true (da_cons de_int (da_cons de_int (da_cons de_int (da_cons de_int (da_cons de_int da_nil)))))) (de_op od_mod (de_bT cd_int T.m_int (da_cons (de_ix (de_v 0) de_int) da_nil)) de_int)))
    (dss_cons (ds_set (i := 3) sc__law_take.nd rfl (by first | exact Or.inl rfl | exact Or.inr rfl) (de_op od_mod (de_bT cd_int T.m_int (da_cons (de_op od_pows (de_bT cd_int T.m_int (da_cons (de_op (od_add true) (de_op (od_add true) (de_ix (de_v 0) de_int) (de_op (od_mul true) (de_op (od_mul true) de_int (de_ix (de_v 0) de_int)) (de_ix (de_v 0) de_int))) de_int) da_nil)) de_int) da_nil)) (de_v 2)))
    (dss_cons (ds_set (i := 3) sc__law_take.nd rfl (by first | exact Or.inl rfl | exact Or.inr rfl) (de_op od_mod (de_bT cd_int T.m_int (da_cons (de_op (od_mul true) (de_v 3) (de_op (od_add true) (de_op od_mod (de_bT cd_int T.m_int (da_cons (de_v 3) da_nil)) de_int) (de_op (od_mul true) de_int (de_ix (de_v 0) de_int)))) da_nil)) de_int))
    (dss_one (ds_ret (de_op od_mod (de_bT cd_int T.m_int (da_cons (de_op od_fdiv (de_v 3) de_int) da_nil)) (de_v 1)))))))))) read
theorem c__law_of {k : Nat} {TT : TT8} (T : Txt K mg) {sp__law_take : DS1} (c__law_take : Cal1 P w K TT mg base k "_law_take" sp__law_take) {sp : DS1} (read : ∀ ds M Q, sp ds M Q → ds.length = 2 ∧ r__law_of sp__law_take { nx := fun _ M' => Q .non M', rt := Q } (dstart N__law_of ds) M) : Cal1 P w K TT mg base (k + 1) "_law_of" sp :=
  dcal1 T.h__law_of sc__law_of (t := r__law_of sp__law_take) (fun f cdv A outer s H E Y E1 hT hr gu g =>
    (dss_one (ds_ret (de_ix (de_v 1) (de_call1 (c__law_take.on hT) hr gu g.xt (da_cons (de_v 0) (da_cons (de_b cd_len T.m_len (da_cons (de_v 1) da_nil)) da_nil))))))) read
theorem c__law_places {k : Nat} {TT : TT8} (T : Txt K mg) {sp : DS1} (read : ∀ ds M Q, sp ds M Q → ds.length = 2 ∧ r__law_places { nx := fun _ M' => Q .non M', rt := Q } (dstart N__law_places ds) M) : Cal1 P w K TT mg base (k + 1) "_law_places" sp :=
  dcal1 T.h__law_places sc__law_places (t := r__law_places) (fun f cdv A outer s H E Y E1 hT hr gu g =>
    (dss_one (ds_ret (de_listRg true T.m_list T.m_range (de_b (cd_max2 rfl) T.m_max (da_cons de_int (da_cons (de_b (cd_min2 rfl) T.m_min (da_cons (de_v 1) (da_cons (de_b cd_len T.m_len (da_cons (de_v 0) da_nil)) da_nil))) da_nil))))))) read
theorem c__law_odd {k : Nat} {TT : TT8} (T : Txt K mg) {sp__law_of : DS1} (c__law_of : Cal1 P w K TT mg base k "_law_of" sp__law_of) {sp : DS1} (read : ∀ ds M Q, sp ds M Q → ds.length = 1 ∧ r__law_odd sp__law_of { nx := fun _ M' => Q .non M', rt := Q } (dstart N__law_odd ds) M) : Cal1 P w K TT mg base (k + 1) "_law_odd" sp :=
  dcal1 T.h__law_odd sc__law_odd (t := r__law_odd sp__law_of) (fun f cdv A outer s H E Y E1 hT hr gu g =>
    (dss_cons (ds_set (i := 1) sc__law_odd.nd rfl (by first | exact Or.inl rfl | exact Or.inr rfl) (de_lst true (da_cons de_non (da_cons de_bl (da_cons de_bl (da_cons de_int (da_cons de_int (da_cons (de_neg de_int) (da_cons de_int (da_cons de_int (da_cons de_str (da_cons de_str (da_cons de_str (da_cons de_str (da_cons de_str (da_cons (de_tup da_nil) (da_cons (de_lst true da_nil) (da_cons (de_tup (da_cons de_int da_nil)) (da_cons (de_tup (da_cons (de_tup da_nil) da_nil)) (da_cons (de_lst true (da_cons de_int da_nil)) (da_cons (de_tup (da_cons de_str da_nil)) da_nil)))))))))))))))))))))
    (dss_cons (ds_set (i := 1) sc__law_odd.nd rfl (by first | exact Or.inl rfl | exact Or.inr rfl) (de_op (od_add true) (de_v 1) (de_lst true (da_cons (de_tup (da_cons de_str (da_cons de_str da_nil))) (da_cons (de_tup (da_cons de_str (da_cons (de_tup (da_cons de_str (da_cons de_str da_nil))) da_nil))) (da_cons (de_tup (da_cons de_non da_nil)) (da_cons (de_lst true (da_cons de_str da_nil)) (da_cons (de_op (od_mul true) de_str de_int) (da_cons de_str (da_cons (de_tup (da_cons de_str da_nil)) da_nil))))))))))
    (dss_one (ds_ret (de_call1 (c__law_of.on hT) hr gu g.xt (da_cons (de_v 0) (da_cons (de_v 1) da_nil)))))))) read
theorem c__law_bent {k : Nat} {TT : TT8} (T : Txt K mg) {sp__law_take : DS1} (c__law_take : Cal1 P w K TT mg base k "_law_take" sp__law_take) {sp__law_bent : DS1} (c__law_bent : Cal1 P w K TT mg base k "_law_bent" sp__law_bent) {sp__law_of : DS1} (c__law_of : Cal1 P w K TT mg base k "_law_of" sp__law_of) {sp__law_odd : DS1} (c__law_odd : Cal1 P w K TT mg base k "_law_odd" sp__law_odd) {sp : DS1} (read : ∀ ds M Q, sp ds M Q → ds.length = 2 ∧ r__law_bent sp__law_take sp__law_bent sp__law_of sp__law_odd { nx := fun _ M' => Q .non M', rt := Q } (dstart N__law_bent ds) M) : Cal1 P w K TT mg base (k + 1) "_law_bent" sp :=
  dcal1 T.h__law_bent sc__law_bent (t := r__law_bent sp__law_take sp__law_bent sp__law_of sp__law_odd) (fun f cdv A outer s H E Y E1 hT hr gu g =>
    (dss_cons (ds_if (dt_w (dw_and (dt_val (de_isi T.m_isinstance T.m_tuple (de_v 1))) (dw_and (dt_cmp (od_ne hr) (de_v 1) (de_tup da_nil) (nomark _)) (dw_and1 (dt_cmp od_gt (de_call1 (c__law_take.on hT) hr gu g.xt (da_cons (de_v 0) (da_cons de_int da_nil))) de_int (nomark _)))))) (dss_cons (ds_set (i := 2) sc__law_bent.nd rfl (by first | exact Or.inl rfl | exact Or.inr rfl) (de_call1 (c__law_take.on hT) hr gu g.xt (da_cons (de_v 0) (da_cons (de_b cd_len T.m_len (da_cons (de_v 1) da_nil)) da_nil))))
    (dss_one (ds_ret (de_op (od_add true) (de_op (od_add true) (de_slice true (de_v 1) do_none (do_some (de_v 2))) (de_tup (da_cons (de_call1 (c__law_bent.on hT) hr gu g.xt (da_cons (de_v 0) (da_cons (de_ix (de_v 1) (de_v 2)) da_nil))) da_nil))) (de_slice true (de_v 1) (do_some (de_op (od_add true) (de_v 2) de_int)) do_none))))) dss_nil)
    (dss_cons (ds_if (dt_val (de_isi T.m_isinstance T.m_tuple (de_v 1))) (dss_one (ds_ret (de_call1 (c__law_of.on hT) hr gu g.xt (da_cons (de_v 0) (da_cons (de_lst true (da_cons (de_bT (cd_list true) T.m_list (da_cons (de_v 1) da_nil)) (da_cons (de_slice true (de_v 1) (do_some de_int) do_none) (da_cons (de_slice true (de_v 1) do_none (do_some (de_neg de_int))) (da_cons (de_op (od_add true) (de_v 1) (de_slice true (de_v 1) (do_some (de_neg de_int)) do_none)) (da_cons (de_revS true (de_v 1)) (da_cons (de_tup da_nil) (da_cons de_non da_nil)))))))) da_nil))))) dss_nil)
    (dss_cons (ds_if (dt_val (de_isi T.m_isinstance T.m_bool (de_v 1))) (dss_one (ds_ret (de_call1 (c__law_of.on hT) hr gu g.xt (da_cons (de_v 0) (da_cons (de_lst true (da_cons (de_not (de_v 1)) (da_cons (de_bT cd_int T.m_int (da_cons (de_v 1) da_nil)) (da_cons de_non da_nil)))) da_nil))))) dss_nil)
    (dss_cons (ds_if (dt_val (de_isi T.m_isinstance T.m_int (de_v 1))) (dss_one (ds_ret (de_call1 (c__law_of.on hT) hr gu g.xt (da_cons (de_v 0) (da_cons (de_lst true (da_cons (de_op (od_add true) (de_v 1) de_int) (da_cons (de_op od_sub (de_v 1) de_int) (da_cons (de_neg (de_v 1)) (da_cons (de_bT cd_str T.m_str (da_cons (de_v 1) da_nil)) (da_cons de_non (da_cons (de_cmp (od_eq hr) (de_v 1) de_int (nomark _)) (da_cons (de_tup (da_cons (de_v 1) da_nil)) da_nil)))))))) da_nil))))) dss_nil)
    (dss_cons (ds_if (dt_val (de_isi T.m_isinstance T.m_str (de_v 1))) (dss_cons (ds_set (i := 3) sc__law_bent.nd rfl (by first | exact Or.inl rfl | exact Or.inr rfl) (de_lst true (da_cons (de_op (od_add true) (de_v 1) de_str) (da_cons (de_slice true (de_v 1) do_none (do_some (de_neg de_int))) (da_cons (de_upper (de_v 1)) (da_cons (de_lst true (da_cons (de_v 1) da_nil)) (da_cons de_str (da_cons de_non (da_cons de_int (da_cons de_str (da_cons (de_op (od_add true) de_str (de_v 1)) (da_cons (de_op (od_add true) (de_v 1) de_str) da_nil))))))))))))
    (dss_one (ds_ret (de_call1 (c__law_of.on hT) hr gu g.xt (da_cons (de_v 0) (da_cons (de_v 3) da_nil)))))) dss_nil)
    (dss_one (ds_ret (de_call1 (c__law_odd.on hT) hr gu g.xt (da_cons (de_v 0) da_nil)))))))))) read
theorem c__law_ends {k : Nat} {TT : TT8} (T : Txt K mg) {sp__law_ends : DS1} (c__law_ends : Cal1 P w K TT mg base k "_law_ends" sp__law_ends) {sp : DS1} (read : ∀ ds M Q, sp ds M Q → ds.length = 3 ∧ r__law_ends sp__law_ends { nx := fun _ M' => Q .non M', rt := Q } (dstart N__law_ends ds) M) : Cal1 P w K TT mg base (k + 1) "_law_ends" sp :=
  dcal1 T.h__law_ends sc__law_ends (t := r__law_ends sp__law_ends) (fun f cdv A outer s H E Y E1 hT hr gu g =>
    (dss_cons (ds_set (i := 3) sc__law_ends.nd rfl (by first | exact Or.inl rfl | exact Or.inr rfl) (de_ix (de_v 0) de_int))
    (dss_cons (ds_if (dt_cmp (od_eq hr) (de_v 3) de_str (nomark _)) (dss_cons (ds_set (i := 4) sc__law_ends.nd rfl (by first | exact Or.inl rfl | exact Or.inr rfl) (de_op (od_add true) (de_v 2) (de_b cd_len T.m_len (da_cons (de_ix (de_v 0) de_int) da_nil))))
    (dss_one (ds_ret (de_if (dt_cmp (od_eq hr) (de_slice true (de_v 1) (do_some (de_v 2)) (do_some (de_v 4))) (de_ix (de_v 0) de_int) (nomark _)) (de_lst true (da_cons (de_v 4) da_nil)) (de_lst true da_nil))))) dss_nil)
    (dss_cons (ds_if (dt_cmp (od_eq hr) (de_v 3) de_str (nomark _)) (dss_one (ds_ret (de_if (dt_w (dw_and (dt_cmp od_lt (de_v 2) (de_b cd_len T.m_len (da_cons (de_v 1) da_nil)) (nomark _)) (dw_and1 (dt_cmp od_in (de_ix (de_v 1) (de_v 2)) (de_ix (de_v 0) de_int) (by with_unfolding_all rfl))))) (de_lst true (da_cons (de_op (od_add true) (de_v 2) de_int) da_nil)) (de_lst true da_nil)))) dss_nil)
    (dss_cons (ds_if (dt_cmp (od_eq hr) (de_v 3) de_str (nomark _)) (dss_one (ds_ret (de_sortSetI true T.m_sorted T.m_set (de_op (od_add true) (de_call1 (c__law_ends.on hT) hr gu g.xt (da_cons (de_ix (de_v 0) de_int) (da_cons (de_v 1) (da_cons (de_v 2) da_nil)))) (de_call1 (c__law_ends.on hT) hr gu g.xt (da_cons (de_ix (de_v 0) de_int) (da_cons (de_v 1) (da_cons (de_v 2) da_nil)))))))) dss_nil)
    (dss_cons (ds_par (i := 5) (j := 6) rfl sc__law_ends.nd rfl rfl (by decide) rfl rfl (da_cons (de_lst false da_nil) (da_cons (de_lst false (da_cons (de_v 2) da_nil)) da_nil)))
    (dss_cons (ds_if (dt_cmp (od_eq hr) (de_v 3) de_str (nomark _)) (dss_cons (ds_for (passes_of rfl) rfl (di_it (de_call1 (c__law_ends.on hT) hr gu g.xt (da_cons (de_ix (de_v 0) de_int) (da_cons (de_v 1) (da_cons (de_v 2) da_nil))))) (dg_name (i := 7) sc__law_ends.nd rfl (by first | exact Or.inl rfl | exact Or.inr rfl)) (dss_one (ds_expr (de_extend (de_v 5) (de_call1 (c__law_ends.on hT) hr gu g.xt (da_cons (de_ix (de_v 0) de_int) (da_cons (de_v 1) (da_cons (de_v 7) da_nil))))))))
    (dss_one (ds_ret (de_sortSetI true T.m_sorted T.m_set (de_v 5))))) dss_nil)
    (dss_cons (ds_while (passes_of rfl) (dt_cmp (od_ne hr) (de_v 6) (de_lst true da_nil) (nomark _)) (dss_cons (ds_set (i := 8) sc__law_ends.nd rfl (by first | exact Or.inl rfl | exact Or.inr rfl) (de_pop (de_v 6)))
    (dss_one (ds_if (dt_cmp od_notIn (de_v 8) (de_v 5) (by with_unfolding_all rfl)) (dss_cons (ds_expr (de_append (de_v 5) (de_v 8)))
    (dss_one (ds_expr (de_extend (de_v 6) (de_call1 (c__law_ends.on hT) hr gu g.xt (da_cons (de_ix (de_v 0) de_int) (da_cons (de_v 1) (da_cons (de_v 8) da_nil)))))))) dss_nil))))
    (dss_one (ds_ret (de_b (cd_sortI true) T.m_sorted (da_cons (de_v 5) da_nil)))))))))))) read
theorem c__law_has {k : Nat} {TT : TT8} (T : Txt K mg) {sp__law_ends : DS1} (c__law_ends : Cal1 P w K TT mg base k "_law_ends" sp__law_ends) {sp : DS1} (read : ∀ ds M Q, sp ds M Q → ds.length = 2 ∧ r__law_has sp__law_ends { nx := fun _ M' => Q .non M', rt := Q } (dstart N__law_has ds) M) : Cal1 P w K TT mg base (k + 1) "_law_has" sp :=
  dcal1 T.h__law_has sc__law_has (t := r__law_has sp__law_ends) (fun f cdv A outer s H E Y E1 hT hr gu g =>
    (dss_one (ds_ret (de_cmp od_in (de_b cd_len T.m_len (da_cons (de_v 1) da_nil)) (de_call1 (c__law_ends.on hT) hr gu g.xt (da_cons (de_v 0) (da_cons (de_v 1) (da_cons de_int da_nil)))) (by with_unfolding_all rfl))))) read
theorem c__law_lens_text_type {k : Nat} {TT : TT8} (T : Txt K mg) {sp__law_lens_text_type : DS1} (c__law_lens_text_type : Cal1 P w K TT mg base k "_law_lens_text_type" sp__law_lens_text_type) {sp : DS1} (read : ∀ ds M Q, sp ds M Q → ds.length = 1 ∧ r__law_lens_text_type sp__law_lens_text_type { nx := fun _ M' => Q .non M', rt := Q } (dstart N__law_lens_text_type ds) M) : Cal1 P w K TT mg base (k + 1) "_law_lens_text_type" sp :=
  dcal1 T.h__law_lens_text_type sc__law_lens_text_type (t := r__law_lens_text_type sp__law_lens_text_type) (fun f cdv A outer s H E Y E1 hT hr gu g =>
    (dss_one (ds_ret (de_if (dt_cmp od_lt (de_b cd_len T.m_len (da_cons (de_v 0) da_nil)) de_int (nomark _)) (de_tup (da_cons de_str (da_cons (de_v 0) da_nil))) (de_tup (da_cons de_str (da_cons (de_tup (da_cons de_str (da_cons (de_slice true (de_v 0) do_none (do_some de_int)) da_nil))) (da_cons (de_call1 (c__law_lens_text_type.on hT) hr gu g.xt (da_cons (de_slice true (de_v 0) (do_some de_int) do_none) da_nil)) da_nil)))))))) read
theorem c__law_lens_types {k : Nat} {TT : TT8} (T : Txt K mg) {sp__law_lens_text_type : DS1} (c__law_lens_text_type : Cal1 P w K TT mg base k "_law_lens_text_type" sp__law_lens_text_type) {sp__law_lens_types : DS1} (c__law_lens_types : Cal1 P w K TT mg base k "_law_lens_types" sp__law_lens_types) {sp : DS1} (read : ∀ ds M Q, sp ds M Q → ds.length = 1 ∧ r__law_lens_types sp__law_lens_text_type sp__law_lens_types { nx := fun _ M' => Q .non M', rt := Q } (dstart N__law_lens_types ds) M) : Cal1 P w K TT mg base (k + 1) "_law_lens_types" sp :=
  dcal1 T.h__law_lens_types sc__law_lens_types (t := r__law_lens_types sp__law_lens_text_type sp__law_lens_types) (fun f cdv A outer s H E Y E1 hT hr gu g =>
    (dss_cons (ds_set (i := 1) sc__law_lens_types.nd rfl (by first | exact Or.inl rfl | exact Or.inr rfl) (de_ix (de_v 0) de_int))
    (dss_cons (ds_if (dt_cmp od_in (de_v 1) (de_tup (da_cons de_str (da_cons de_str da_nil))) (by with_unfolding_all rfl)) (dss_one (ds_ret (de_tup (da_cons (de_ix (de_v 0) de_int) (da_cons (de_if (dt_cmp (od_eq hr) (de_v 1) de_str (nomark _)) (de_ix (de_v 0) de_int) (de_call1 (c__law_lens_text_type.on hT) hr gu g.xt (da_cons (de_ix (de_v 0) de_int) da_nil))) da_nil))))) dss_nil)
    (dss_cons (ds_asg (de_call1 (c__law_lens_types.on hT) hr gu g.xt (da_cons (de_ix (de_v 0) de_int) da_nil)) (dg_tup rfl (dgs_cons (dg_name (i := 2) sc__law_lens_types.nd rfl (by first | exact Or.inl rfl | exact Or.inr rfl)) (dgs_cons (dg_name (i := 3) sc__law_lens_types.nd rfl (by first | exact Or.inl rfl | exact Or.inr rfl)) dgs_nil))))
    (dss_cons (ds_if (dt_cmp od_in (de_v 1) (de_tup (da_cons de_str (da_cons de_str da_nil))) (by with_unfolding_all rfl)) (dss_one (ds_ret (de_tup (da_cons (de_tup (da_cons de_str (da_cons (de_v 2) da_nil))) (da_cons (de_tup (da_cons de_str (da_cons (de_v 3) da_nil))) da_nil))))) dss_nil)
    (dss_cons (ds_asg (de_call1 (c__law_lens_types.on hT) hr gu g.xt (da_cons (de_ix (de_v 0) de_int) da_nil)) (dg_tup rfl (dgs_cons (dg_name (i := 4) sc__law_lens_types.nd rfl (by first | exact Or.inl rfl | exact Or.inr rfl)) (dgs_cons (dg_name (i := 5) sc__law_lens_types.nd rfl (by first | exact Or.inl rfl | exact Or.inr rfl)) dgs_nil))))
    (dss_cons (ds_if (dt_cmp (od_eq hr) (de_v 1) de_str (nomark _)) (dss_one (ds_ret (de_tup (da_cons (de_v 2) (da_cons (de_v 5) da_nil))))) dss_nil)
    (dss_cons (ds_if (dt_cmp (od_eq hr) (de_v 1) de_str (nomark _)) (dss_one (ds_ret (de_tup (da_cons (de_tup (da_cons de_str (da_cons (de_v 2) (da_cons (de_v 4) da_nil)))) (da_cons (de_tup (da_cons de_str (da_cons (de_v 5) (da_cons (de_v 3) da_nil)))) da_nil))))) dss_nil)
    (dss_one (ds_ret (de_tup (da_cons (de_tup (da_cons (de_v 1) (da_cons (de_v 2) (da_cons (de_v 4) da_nil)))) (da_cons (de_tup (da_cons (de_v 1) (da_cons (de_v 3) (da_cons (de_v 5) da_nil)))) da_nil))))))))))))) read
theorem c__law_lens_any {k : Nat} {TT : TT8} (T : Txt K mg) {sp__law_of : DS1} (c__law_of : Cal1 P w K TT mg base k "_law_of" sp__law_of) {sp__law_lens_any : DS1} (c__law_lens_any : Cal1 P w K TT mg base k "_law_lens_any" sp__law_lens_any) {sp__law_take : DS1} (c__law_take : Cal1 P w K TT mg base k "_law_take" sp__law_take) {sp : DS1} (read : ∀ ds M Q, sp ds M Q → ds.length = 3 ∧ r__law_lens_any sp__law_of sp__law_lens_any sp__law_take { nx := fun _ M' => Q .non M', rt := Q } (dstart N__law_lens_any ds) M) : Cal1 P w K TT mg base (k + 1) "_law_lens_any" sp :=
  dcal1 T.h__law_lens_any sc__law_lens_any (t := r__law_lens_any sp__law_of sp__law_lens_any sp__law_take) (fun f cdv A outer s H E Y E1 hT hr gu g =>
    (dss_cons (ds_set (i := 3) sc__law_lens_any.nd rfl (by first | exact Or.inl rfl | exact Or.inr rfl) (de_ix (de_v 1) de_int))
    (dss_cons (ds_if (dt_cmp (od_eq hr) (de_v 3) de_str (nomark _)) (dss_one (ds_ret (de_ix (de_v 1) de_int))) dss_nil)
    (dss_cons (ds_if (dt_cmp (od_eq hr) (de_v 3) de_str (nomark _)) (dss_one (ds_ret (de_call1 (c__law_of.on hT) hr gu g.xt (da_cons (de_v 0) (da_cons (de_ix (de_v 1) de_int) da_nil))))) dss_nil)
    (dss_cons (ds_if (dt_cmp (od_eq hr) (de_v 3) de_str (nomark _)) (dss_one (ds_ret (de_call1 (c__law_lens_any.on hT) hr gu g.xt (da_cons (de_v 0) (da_cons (de_ix (de_v 1) (de_op (od_add true) de_int (de_call1 (c__law_take.on hT) hr gu g.xt (da_cons (de_v 0) (da_cons de_int da_nil))))) (da_cons (de_v 2) da_nil)))))) dss_nil)
    (dss_cons (ds_if (dt_cmp (od_eq hr) (de_v 3) de_str (nomark _)) (dss_one (ds_ret (de_op (od_add true) (de_call1 (c__law_lens_any.on hT) hr gu g.xt (da_cons (de_v 0) (da_cons (de_ix (de_v 1) de_int) (da_cons (de_v 2) da_nil)))) (de_call1 (c__law_lens_any.on hT) hr gu g.xt (da_cons (de_v 0) (da_cons (de_ix (de_v 1) de_int) (da_cons (de_v 2) da_nil))))))) dss_nil)
    (dss_one (ds_ret (de_join de_str (de_lc true (own := [("lap", 4)]) (g := (dgName 4)) (tt := dYes) (te := (dCall1 sp__law_lens_any (dCons (dSlot 0) (dCons (dOp rIxD (dSlot 1) (dC (.int 1))) (dCons (dSlot 2) dNil))))) rfl sc__law_lens_any.nd (di_range1 T.m_range (de_call1 (c__law_take.on hT) hr gu g.xt (da_cons (de_v 0) (da_cons (de_op (od_add true) (de_v 2) de_int) da_nil)))) (blkOk_by (own := [("lap", 4)]) (N := N__law_lens_any) (sc := defScope st__law_lens_any) (by decide +kernel)) (by decide) (fun _ _ _ _ _ => (dg_name (i := 4) sc__law_lens_any.nd rfl (by first | exact Or.inl rfl | exact Or.inr rfl))) (fun _ _ _ _ _ => dts_nil) (fun _ _ _ _ _ => (de_call1 (c__law_lens_any.on hT) hr gu g.xt (da_cons (de_v 0) (da_cons (de_ix (de_v 1) de_int) (da_cons (de_v 2) da_nil))))))))))))))) read
theorem c__law_lens_any_d {k : Nat} {TT : TT8} (T : Txt K mg) {sp__law_of : DS1} (c__law_of : Cal1 P w K TT mg base k "_law_of" sp__law_of) {sp__law_lens_any : DS1} (c__law_lens_any : Cal1 P w K TT mg base k "_law_lens_any" sp__law_lens_any) {sp__law_take : DS1} (c__law_take : Cal1 P w K TT mg base k "_law_take" sp__law_take) {sp : DS1} (read : ∀ ds M Q, sp ds M Q → ds.length = 3 ∧ r__law_lens_any sp__law_of sp__law_lens_any sp__law_take { nx := fun _ M' => Q .non M', rt := Q } (dstart N__law_lens_any ds) M) : Cal P w K TT mg base (k + 1) "_law_lens_any" [.int 2] (quiet sp) :=
  dcal T.d__law_lens_any sc__law_lens_any (t := fun _ => r__law_lens_any sp__law_of sp__law_lens_any sp__law_take) (fun f cdv A outer s H E Y E1 hT hr gu g =>
    (dss_cons (ds_set (i := 3) sc__law_lens_any.nd rfl (by first | exact Or.inl rfl | exact Or.inr rfl) (de_ix (de_v 1) de_int))
    (dss_cons (ds_if (dt_cmp (od_eq hr) (de_v 3) de_str (nomark _)) (dss_one (ds_ret (de_ix (de_v 1) de_int))) dss_nil)
    (dss_cons (ds_if (dt_cmp (od_eq hr) (de_v 3) de_str (nomark _)) (dss_one (ds_ret (de_call1 (c__law_of.on hT) hr gu g.xt (da_cons (de_v 0) (da_cons (de_ix (de_v 1) de_int) da_nil))))) dss_nil)
    (dss_cons (ds_if (dt_cmp (od_eq hr) (de_v 3) de_str (nomark _)) (dss_one (ds_ret (de_call1 (c__law_lens_any.on hT) hr gu g.xt (da_cons (de_v 0) (da_cons (de_ix (de_v 1) (de_op (od_add true) de_int (de_call1 (c__law_take.on hT) hr gu g.xt (da_cons (de_v 0) (da_cons de_int da_nil))))) (da_cons (de_v 2) da_nil)))))) dss_nil)
    (dss_cons (ds_if (dt_cmp (od_eq hr) (de_v 3) de_str (nomark _)) (dss_one (ds_ret (de_op (od_add true) (de_call1 (c__law_lens_any.on hT) hr gu g.xt (da_cons (de_v 0) (da_cons (de_ix (de_v 1) de_int) (da_cons (de_v 2) da_nil)))) (de_call1 (c__law_lens_any.on hT) hr gu g.xt (da_cons (de_v 0) (da_cons (de_ix (de_v 1) de_int) (da_cons (de_v 2) da_nil))))))) dss_nil)
    (dss_one (ds_ret (de_join de_str (de_lc true (own := [("lap", 4)]) (g := (dgName 4)) (tt := dYes) (te := (dCall1 sp__law_lens_any (dCons (dSlot 0) (dCons (dOp rIxD (dSlot 1) (dC (.int 1))) (dCons (dSlot 2) dNil))))) rfl sc__law_lens_any.nd (di_range1 T.m_range (de_call1 (c__law_take.on hT) hr gu g.xt (da_cons (de_v 0) (da_cons (de_op (od_add true) (de_v 2) de_int) da_nil)))) (blkOk_by (own := [("lap", 4)]) (N := N__law_lens_any) (sc := defScope st__law_lens_any) (by decide +kernel)) (by decide) (fun _ _ _ _ _ => (dg_name (i := 4) sc__law_lens_any.nd rfl (by first | exact Or.inl rfl | exact Or.inr rfl))) (fun _ _ _ _ _ => dts_nil) (fun _ _ _ _ _ => (de_call1 (c__law_lens_any.on hT) hr gu g.xt (da_cons (de_v 0) (da_cons (de_ix (de_v 1) de_int) (da_cons (de_v 2) da_nil))))))))))))))) fun ds M Q E => read ds M Q
theorem c__law_lens_type {k : Nat} {TT : TT8} (T : Txt K mg) {sp__law_take : DS1} (c__law_take : Cal1 P w K TT mg base k "_law_take" sp__law_take) {sp__law_of : DS1} (c__law_of : Cal1 P w K TT mg base k "_law_of" sp__law_of) {sp__law_lens_type : DS1} (c__law_lens_type : Cal1 P w K TT mg base k "_law_lens_type" sp__law_lens_type) {sp : DS1} (read : ∀ ds M Q, sp ds M Q → ds.length = 2 ∧ r__law_lens_type sp__law_take sp__law_of sp__law_lens_type { nx := fun _ M' => Q .non M', rt := Q } (dstart N__law_lens_type ds) M) : Cal1 P w K TT mg base (k + 1) "_law_lens_type" sp :=
  dcal1 T.h__law_lens_type sc__law_lens_type (t := r__law_lens_type sp__law_take sp__law_of sp__law_lens_type) (fun f cdv A outer s H E Y E1 hT hr gu g =>
    (dss_cons (ds_par (i := 4) (j := 5) rfl sc__law_lens_type.nd rfl rfl (by decide) rfl rfl (da_cons (de_call1 (c__law_take.on hT) hr gu g.xt (da_cons (de_v 0) (da_cons (de_if (dt_cmp od_gt (de_v 1) de_int (nomark _)) de_int de_int) da_nil))) (da_cons (de_tup (da_cons de_str (da_cons (de_tup (da_cons de_str (da_cons de_str da_nil))) da_nil))) da_nil)))
    (dss_cons (ds_if (dt_cmp od_lt (de_v 4) de_int (nomark _)) (dss_one (ds_ret (de_ix (de_lst true (da_cons (de_v 5) (da_cons (de_tup (da_cons de_str (da_cons de_str da_nil))) (da_cons (de_tup (da_cons de_str (da_cons (de_call1 (c__law_of.on hT) hr gu g.xt (da_cons (de_v 0) (da_cons (de_lst true (da_cons de_str (da_cons de_str (da_cons de_str (da_cons de_str (da_cons de_str da_nil)))))) da_nil))) da_nil))) (da_cons (de_tup (da_cons de_str (da_cons (de_tup (da_cons de_str (da_cons de_str da_nil))) da_nil))) da_nil))))) (de_v 4)))) dss_nil)
    (dss_cons (ds_set (i := 2) sc__law_lens_type.nd rfl (by first | exact Or.inl rfl | exact Or.inr rfl) (de_call1 (c__law_lens_type.on hT) hr gu g.xt (da_cons (de_v 0) (da_cons (de_op od_sub (de_v 1) de_int) da_nil))))
    (dss_cons (ds_if (dt_cmp (od_eq hr) (de_v 4) de_int (nomark _)) (dss_one (ds_ret (de_tup (da_cons de_str (da_cons (de_tup (da_cons de_str (da_cons (de_v 2) (da_cons (de_tup (da_cons de_str (da_cons (de_call1 (c__law_of.on hT) hr gu g.xt (da_cons (de_v 0) (da_cons (de_lst true (da_cons de_str (da_cons de_str (da_cons de_str da_nil)))) da_nil))) da_nil))) da_nil)))) da_nil))))) dss_nil)
    (dss_cons (ds_set (i := 3) sc__law_lens_type.nd rfl (by first | exact Or.inl rfl | exact Or.inr rfl) (de_call1 (c__law_lens_type.on hT) hr gu g.xt (da_cons (de_v 0) (da_cons (de_op od_sub (de_v 1) de_int) da_nil))))
    (dss_cons (ds_if (dt_cmp (od_eq hr) (de_v 4) de_int (nomark _)) (dss_one (ds_ret (de_tup (da_cons de_str (da_cons (de_v 2) (da_cons (de_tup (da_cons de_str (da_cons (de_tup (da_cons de_str (da_cons (de_call1 (c__law_of.on hT) hr gu g.xt (da_cons (de_v 0) (da_cons (de_lst true (da_cons de_str (da_cons de_str (da_cons de_str (da_cons de_str da_nil))))) da_nil))) da_nil))) (da_cons (de_v 3) da_nil)))) da_nil)))))) dss_nil)
    (dss_cons (ds_if (dt_cmp (od_eq hr) (de_v 4) de_int (nomark _)) (dss_one (ds_ret (de_tup (da_cons de_str (da_cons (de_tup (da_cons de_str (da_cons (de_tup (da_cons de_str (da_cons de_str da_nil))) (da_cons (de_v 2) da_nil)))) (da_cons (de_tup (da_cons de_str (da_cons (de_tup (da_cons de_str (da_cons (de_call1 (c__law_of.on hT) hr gu g.xt (da_cons (de_v 0) (da_cons (de_lst true (da_cons de_str (da_cons de_str (da_cons de_str da_nil)))) da_nil))) da_nil))) (da_cons (de_v 3) da_nil)))) da_nil)))))) dss_nil)
    (dss_one (ds_ret (de_tup (da_cons de_str (da_cons (de_v 2) (da_cons (de_v 3) da_nil)))))))))))))) read
theorem c__law_lens_over {k : Nat} {TT : TT8} (T : Txt K mg) {sp__law_take : DS1} (c__law_take : Cal1 P w K TT mg base k "_law_take" sp__law_take) {sp__law_lens_any_d : DS1} (c__law_lens_any_d : Cal P w K TT mg base k "_law_lens_any" [.int 2] (quiet sp__law_lens_any_d)) {sp__law_of : DS1} (c__law_of : Cal1 P w K TT mg base k "_law_of" sp__law_of) {sp__law_lens_over : DS1} (c__law_lens_over : Cal1 P w K TT mg base k "_law_lens_over" sp__law_lens_over) {sp__law_lens_types : DS1} (c__law_lens_types : Cal1 P w K TT mg base k "_law_lens_types" sp__law_lens_types) {sp : DS1} (read : ∀ ds M Q, sp ds M Q → ds.length = 2 ∧ r__law_lens_over sp__law_take sp__law_lens_any_d sp__law_of sp__law_lens_over sp__law_lens_types { nx := fun _ M' => Q .non M', rt := Q } (dstart N__law_lens_over ds) M) : Cal1 P w K TT mg base (k + 1) "_law_lens_over" sp :=
  dcal1 T.h__law_lens_over sc__law_lens_over (t := r__law_lens_over sp__law_take sp__law_lens_any_d sp__law_of sp__law_lens_over sp__law_lens_types) (fun f cdv A outer s H E Y E1 hT hr gu g =>
    (dss_cons (ds_par (i := 3) (j := 4) rfl sc__law_lens_over.nd rfl rfl (by decide) rfl rfl (da_cons (de_ix (de_v 1) de_int) (da_cons (de_call1 (c__law_take.on hT) hr gu g.xt (da_cons (de_v 0) (da_cons de_int da_nil))) da_nil)))
    (dss_cons (ds_if (dt_w (dw_or (dt_cmp (od_eq hr) (de_v 4) de_int (nomark _)) (dw_or1 (dt_w (dw_and (dt_cmp od_in (de_v 3) (de_tup (da_cons de_str (da_cons de_str da_nil))) (by with_unfolding_all rfl)) (dw_and1 (dt_cmp od_lt (de_v 4) de_int (nomark _)))))))) (dss_one (ds_ret (de_tup (da_cons de_str (da_cons (de_v 1) da_nil))))) dss_nil)
    (dss_cons (ds_if (dt_w (dw_or (dt_cmp (od_eq hr) (de_v 4) de_int (nomark _)) (dw_or1 (dt_cmp od_in (de_v 3) (de_tup (da_cons de_str (da_cons de_str da_nil))) (by with_unfolding_all rfl))))) (dss_one (ds_ret (de_tup (da_cons de_str (da_cons (de_v 1) (da_cons (de_call1 (c__law_of.on hT) hr gu g.xt (da_cons (de_v 0) (da_cons (de_lst true (da_cons de_str (da_cons de_str (da_cons de_str (da_cons de_str (da_cons de_str (da_cons de_str da_nil))))))) da_nil))) (da_cons (de_call (c__law_lens_any_d.on hT) hr gu g.xt (da_cons (de_v 0) (da_cons (de_v 1) da_nil))) da_nil))))))) dss_nil)
    (dss_cons (ds_set (i := 2) sc__law_lens_over.nd rfl (by first | exact Or.inl rfl | exact Or.inr rfl) (de_call1 (c__law_lens_over.on hT) hr gu g.xt (da_cons (de_v 0) (da_cons (de_ix (de_v 1) de_int) da_nil))))
    (dss_cons (ds_if (dt_cmp (od_eq hr) (de_v 3) de_str (nomark _)) (dss_one (ds_ret (de_if (dt_cmp (od_eq hr) (de_v 4) de_int (nomark _)) (de_tup (da_cons de_str (da_cons (de_v 2) (da_cons (de_call1 (c__law_lens_over.on hT) hr gu g.xt (da_cons (de_v 0) (da_cons (de_ix (de_call1 (c__law_lens_types.on hT) hr gu g.xt (da_cons (de_v 2) da_nil)) de_int) da_nil))) da_nil)))) (de_tup (da_cons de_str (da_cons (de_v 2) da_nil)))))) dss_nil)
    (dss_one (ds_ret (de_tup (da_cons (de_if (dt_w (dw_and (dt_cmp (od_eq hr) (de_v 3) de_str (nomark _)) (dw_and1 (dt_cmp (od_eq hr) (de_v 4) de_int (nomark _))))) de_str (de_v 3)) (da_cons (de_v 2) (da_cons (de_call1 (c__law_lens_over.on hT) hr gu g.xt (da_cons (de_v 0) (da_cons (de_ix (de_v 1) de_int) da_nil))) da_nil)))))))))))) read
theorem c__law_lens_drawn {k : Nat} {TT : TT8} (T : Txt K mg) {sp__law_lens_over : DS1} (c__law_lens_over : Cal1 P w K TT mg base k "_law_lens_over" sp__law_lens_over) {sp__law_lens_type : DS1} (c__law_lens_type : Cal1 P w K TT mg base k "_law_lens_type" sp__law_lens_type) {sp__law_take : DS1} (c__law_take : Cal1 P w K TT mg base k "_law_take" sp__law_take) {sp__law_lens_types : DS1} (c__law_lens_types : Cal1 P w K TT mg base k "_law_lens_types" sp__law_lens_types) {sp : DS1} (read : ∀ ds M Q, sp ds M Q → ds.length = 2 ∧ r__law_lens_drawn sp__law_lens_over sp__law_lens_type sp__law_take sp__law_lens_types { nx := fun _ M' => Q .non M', rt := Q } (dstart N__law_lens_drawn ds) M) : Cal1 P w K TT mg base (k + 1) "_law_lens_drawn" sp :=
  dcal1 T.h__law_lens_drawn sc__law_lens_drawn (t := r__law_lens_drawn sp__law_lens_over sp__law_lens_type sp__law_take sp__law_lens_types) (fun f cdv A outer s H E Y E1 hT hr gu g =>
    (dss_cons (ds_set (i := 2) sc__law_lens_drawn.nd rfl (by first | exact Or.inl rfl | exact Or.inr rfl) (de_call1 (c__law_lens_over.on hT) hr gu g.xt (da_cons (de_v 0) (da_cons (de_call1 (c__law_lens_type.on hT) hr gu g.xt (da_cons (de_v 0) (da_cons (de_v 1) da_nil))) da_nil))))
    (dss_cons (ds_if (dt_cmp od_gt (de_call1 (c__law_take.on hT) hr gu g.xt (da_cons (de_v 0) (da_cons de_int da_nil))) de_int (nomark _)) (dss_one (ds_ret (de_v 2))) dss_nil)
    (dss_one (ds_ret (de_tup (da_cons de_str (da_cons (de_v 2) (da_cons (de_call1 (c__law_lens_over.on hT) hr gu g.xt (da_cons (de_v 0) (da_cons (de_ix (de_call1 (c__law_lens_types.on hT) hr gu g.xt (da_cons (de_v 2) da_nil)) de_int) da_nil))) da_nil))))))))) read
theorem c__law_lens_parts {k : Nat} {TT : TT8} (T : Txt K mg) {sp__law_lens_parts : DS1} (c__law_lens_parts : Cal1 P w K TT mg base k "_law_lens_parts" sp__law_lens_parts) {sp : DS1} (read : ∀ ds M Q, sp ds M Q → ds.length = 2 ∧ r__law_lens_parts sp__law_lens_parts { nx := fun _ M' => Q .non M', rt := Q } (dstart N__law_lens_parts ds) M) : Cal1 P w K TT mg base (k + 1) "_law_lens_parts" sp :=
  dcal1 T.h__law_lens_parts sc__law_lens_parts (t := r__law_lens_parts sp__law_lens_parts) (fun f cdv A outer s H E Y E1 hT hr gu g =>
    (dss_cons (ds_set (i := 2) sc__law_lens_parts.nd rfl (by first | exact Or.inl rfl | exact Or.inr rfl) (de_lst false da_nil))
    (dss_cons (ds_for (passes_of rfl) rfl (di_enumT T.m_enumerate (de_if (dt_cmp od_in (de_ix (de_v 0) de_int) (de_tup (da_cons de_str (da_cons de_str da_nil))) (by with_unfolding_all rfl)) (de_tup da_nil) (de_slice true (de_v 0) (do_some de_int) do_none))) (dg_tup rfl (dgs_cons (dg_name (i := 3) sc__law_lens_parts.nd rfl (by first | exact Or.inl rfl | exact Or.inr rfl)) (dgs_cons (dg_name (i := 4) sc__law_lens_parts.nd rfl (by first | exact Or.inl rfl | exact Or.inr rfl)) dgs_nil))) (dss_one (ds_expr (de_extend (de_v 2) (de_call1 (c__law_lens_parts.on hT) hr gu g.xt (da_cons (de_v 4) (da_cons (de_op (od_add true) (de_v 1) (de_tup (da_cons (de_v 3) da_nil))) da_nil)))))))
    (dss_one (ds_ret (de_op (od_add true) (de_v 2) (de_lst true (da_cons (de_tup (da_cons (de_v 1) (da_cons (de_v 0) da_nil))) da_nil)))))))) read
theorem c__law_type_size {k : Nat} {TT : TT8} (T : Txt K mg) {sp__law_type_size : DS1} (c__law_type_size : Cal1 P w K TT mg base k "_law_type_size" sp__law_type_size) {sp : DS1} (read : ∀ ds M Q, sp ds M Q → ds.length = 2 ∧ r__law_type_size sp__law_type_size { nx := fun _ M' => Q .non M', rt := Q } (dstart N__law_type_size ds) M) : Cal1 P w K TT mg base (k + 1) "_law_type_size" sp :=
  dcal1 T.h__law_type_size sc__law_type_size (t := r__law_type_size sp__law_type_size) (fun f cdv A outer s H E Y E1 hT hr gu g =>
    (dss_cons (ds_if (dt_w (dw_or (dt_cmp (od_eq hr) (de_v 1) de_int (nomark _)) (dw_or (dt_not (dt_val (de_isi T.m_isinstance T.m_tuple (de_v 0)))) (dw_or (dt_cmp od_notIn (de_b cd_len T.m_len (da_cons (de_v 0) da_nil)) (de_tup (da_cons de_int (da_cons de_int da_nil))) (by with_unfolding_all rfl)) (dw_or1 (dt_not (dt_val (de_isi T.m_isinstance T.m_str (de_ix (de_v 0) de_int))))))))) (dss_one (ds_ret de_int)) dss_nil)
    (dss_cons (ds_if (dt_cmp od_in (de_ix (de_v 0) de_int) (de_tup (da_cons de_str (da_cons de_str da_nil))) (by with_unfolding_all rfl)) (dss_cons (ds_if (dt_w (dw_or (dt_cmp (od_ne hr) (de_b cd_len T.m_len (da_cons (de_v 0) da_nil)) de_int (nomark _)) (dw_or1 (dt_not (dt_val (de_isi T.m_isinstance T.m_str (de_ix (de_v 0) de_int))))))) (dss_one (ds_ret de_int)) dss_nil)
    (dss_cons (ds_if (dt_not (dt_val (de_b (cd_all rfl) T.m_all (da_cons (de_lc true (own := [("sign", 5)]) (g := (dgName 5)) (tt := dYes) (te := (dOp (rInD false) (dSlot 5) (dC (.str "\x0a ,-.0123456789:;=abcdefghijklmnopqrstuvwxyz")))) rfl sc__law_type_size.nd (di_it (de_ix (de_v 0) de_int)) (blkOk_by (own := [("sign", 5)]) (N := N__law_type_size) (sc := defScope st__law_type_size) (by decide +kernel)) (by decide) (fun _ _ _ _ _ => (dg_name (i := 5) sc__law_type_size.nd rfl (by first | exact Or.inl rfl | exact Or.inr rfl))) (fun _ _ _ _ _ => dts_nil) (fun _ _ _ _ _ => (de_cmp od_in (de_v 5) de_str (by with_unfolding_all rfl)))) da_nil)))) (dss_one (ds_ret de_int)) dss_nil)
    (dss_cons (ds_set (i := 3) sc__law_type_size.nd rfl (by first | exact Or.inl rfl | exact Or.inr rfl) (de_if (dt_cmp (od_eq hr) (de_ix (de_v 0) de_int) de_str (nomark _)) (de_cmp od_lt (de_b cd_len T.m_len (da_cons (de_ix (de_v 0) de_int) da_nil)) de_int (nomark _)) (de_chain (od_eq hr) (od_ne hr) (de_bT (cd_listS true rfl) T.m_list (da_cons (de_ix (de_v 0) de_int) da_nil)) (de_sortSet true T.m_sorted T.m_set (de_ix (de_v 0) de_int)) (de_lst true da_nil))))
    (dss_one (ds_ret (de_bT cd_int T.m_int (da_cons (de_v 3) da_nil))))))) dss_nil)
    (dss_cons (ds_if (dt_cmp (od_ne hr) (de_b cd_len T.m_len (da_cons (de_v 0) da_nil)) (de_getC hr [("cat", 3), ("or", 3), ("star", 2)] (pps_cons pe_str pe_int (pps_cons pe_str pe_int (pps_cons pe_str pe_int pps_nil))) (by decide +kernel) (de_ix (de_v 0) de_int) ⟨rfl, rfl, rfl, rfl⟩) (nomark _)) (dss_one (ds_ret de_int)) dss_nil)
    (dss_cons (ds_setLc (i := 2) true (own := [("part", 4)]) (g := (dgName 4)) (tt := dYes) (te := (dCall1 sp__law_type_size (dCons (dSlot 4) (dCons (dOp (rInt (fun _ _ => True) fun i j => .int (i - j)) (dSlot 1) (dC (.int 1))) dNil)))) rfl sc__law_type_size.nd rfl rfl (sw_true rfl rfl rfl (by decide +kernel)) (di_it (de_slice true (de_v 0) (do_some de_int) do_none)) (blkOk_by (own := [("part", 4)]) (N := N__law_type_size) (sc := defScope st__law_type_size) (by decide +kernel)) (by decide) (fun _ _ _ _ _ => (dg_name (i := 4) sc__law_type_size.nd rfl (by first | exact Or.inl rfl | exact Or.inr rfl))) (fun _ _ _ _ _ => dts_nil) (fun _ _ _ _ _ => (de_call1 (c__law_type_size.on hT) hr gu g.xt (da_cons (de_v 4) (da_cons (de_op od_sub (de_v 1) de_int) da_nil)))))
    (dss_one (ds_ret (de_if (dt_cmp od_in de_int (de_v 2) (by with_unfolding_all rfl)) de_int (de_op (od_add true) de_int (de_b (cd_sum rfl) T.m_sum (da_cons (de_v 2) da_nil))))))))))) read
theorem c__law_is_type {k : Nat} {TT : TT8} (T : Txt K mg) {sp__law_type_size : DS1} (c__law_type_size : Cal1 P w K TT mg base k "_law_type_size" sp__law_type_size) {sp : DS1} (read : ∀ ds M Q, sp ds M Q → ds.length = 1 ∧ r__law_is_type sp__law_type_size { nx := fun _ M' => Q .non M', rt := Q } (dstart N__law_is_type ds) M) : Cal1 P w K TT mg base (k + 1) "_law_is_type" sp :=
  dcal1 T.h__law_is_type sc__law_is_type (t := r__law_is_type sp__law_type_size) (fun f cdv A outer s H E Y E1 hT hr gu g =>
    (dss_one (ds_ret (de_chain od_lt od_lt de_int (de_call1 (c__law_type_size.on hT) hr gu g.xt (da_cons (de_v 0) (da_cons de_int da_nil))) de_int)))) read
theorem c__law_is_text {k : Nat} {TT : TT8} (T : Txt K mg) {sp : DS1} (read : ∀ ds M Q, sp ds M Q → ds.length = 2 ∧ r__law_is_text { nx := fun _ M' => Q .non M', rt := Q } (dstart N__law_is_text ds) M) : Cal1 P w K TT mg base (k + 1) "_law_is_text" sp :=
  dcal1 T.h__law_is_text sc__law_is_text (t := r__law_is_text) (fun f cdv A outer s H E Y E1 hT hr gu g =>
    (dss_cons (ds_if (dt_w (dw_or (dt_not (dt_val (de_isi T.m_isinstance T.m_str (de_v 0)))) (dw_or1 (dt_cmp od_gt (de_b cd_len T.m_len (da_cons (de_v 0) da_nil)) (de_v 1) (nomark _))))) (dss_one (ds_ret de_bl)) dss_nil)
    (dss_one (ds_ret (de_b (cd_all rfl) T.m_all (da_cons (de_lc true (own := [("sign", 2)]) (g := (dgName 2)) (tt := dYes) (te := (dOp (rInD false) (dSlot 2) (dC (.str "\x0a ,-.0123456789:;=abcdefghijklmnopqrstuvwxyz")))) rfl sc__law_is_text.nd (di_it (de_v 0)) (blkOk_by (own := [("sign", 2)]) (N := N__law_is_text) (sc := defScope st__law_is_text) (by decide +kernel)) (by decide) (fun _ _ _ _ _ => (dg_name (i := 2) sc__law_is_text.nd rfl (by first | exact Or.inl rfl | exact Or.inr rfl))) (fun _ _ _ _ _ => dts_nil) (fun _ _ _ _ _ => (de_cmp od_in (de_v 2) de_str (by with_unfolding_all rfl)))) da_nil)))))) read
theorem c__law_size {k : Nat} {TT : TT8} (T : Txt K mg) {sp__law_is_type : DS1} (c__law_is_type : Cal1 P w K TT mg base k "_law_is_type" sp__law_is_type) {sp__law_is_text : DS1} (c__law_is_text : Cal1 P w K TT mg base k "_law_is_text" sp__law_is_text) {sp__law_has : DS1} (c__law_has : Cal1 P w K TT mg base k "_law_has" sp__law_has) {sp__law_size : DS1} (c__law_size : Cal1 P w K TT mg base k "_law_size" sp__law_size) {sp : DS1} (read : ∀ ds M Q, sp ds M Q → ds.length = 2 ∧ r__law_size sp__law_is_type sp__law_is_text sp__law_has sp__law_size { nx := fun _ M' => Q .non M', rt := Q } (dstart N__law_size ds) M) : Cal1 P w K TT mg base (k + 1) "_law_size" sp :=
  dcal1 T.h__law_size sc__law_size (t := r__law_size sp__law_is_type sp__law_is_text sp__law_has sp__law_size) (fun f cdv A outer s H E Y E1 hT hr gu g =>
    (dss_cons (ds_if (dt_w (dw_or (dt_cmp (od_eq hr) (de_v 1) de_int (nomark _)) (dw_or (dt_not (dt_val (de_isi T.m_isinstance T.m_tuple (de_v 0)))) (dw_or (dt_cmp od_lt (de_b cd_len T.m_len (da_cons (de_v 0) da_nil)) de_int (nomark _)) (dw_or1 (dt_not (dt_val (de_isi T.m_isinstance T.m_str (de_ix (de_v 0) de_int))))))))) (dss_one (ds_ret de_int)) dss_nil)
    (dss_cons (ds_if (dt_cmp (od_eq hr) (de_ix (de_v 0) de_int) de_str (nomark _)) (dss_one (ds_ret (de_bT cd_int T.m_int (da_cons (de_and (de_cmp (od_eq hr) (de_b cd_len T.m_len (da_cons (de_v 0) da_nil)) de_int (nomark _)) (de_one (de_call1 (c__law_is_type.on hT) hr gu g.xt (da_cons (de_ix (de_v 0) de_int) da_nil)))) da_nil)))) dss_nil)
    (dss_cons (ds_if (dt_cmp (od_eq hr) (de_ix (de_v 0) de_int) de_str (nomark _)) (dss_cons (ds_if (dt_w (dw_or (dt_cmp (od_ne hr) (de_b cd_len T.m_len (da_cons (de_v 0) da_nil)) de_int (nomark _)) (dw_or (dt_not (dt_val (de_call1 (c__law_is_type.on hT) hr gu g.xt (da_cons (de_ix (de_v 0) de_int) da_nil)))) (dw_or1 (dt_not (dt_val (de_call1 (c__law_is_text.on hT) hr gu g.xt (da_cons (de_ix (de_v 0) de_int) (da_cons de_int da_nil))))))))) (dss_one (ds_ret de_int)) dss_nil)
    (dss_one (ds_ret (de_bT cd_int T.m_int (da_cons (de_and (de_call1 (c__law_is_text.on hT) hr gu g.xt (da_cons (de_ix (de_v 0) de_int) (da_cons de_int da_nil))) (de_one (de_call1 (c__law_has.on hT) hr gu g.xt (da_cons (de_ix (de_v 0) de_int) (da_cons (de_ix (de_v 0) de_int) da_nil))))) da_nil))))) dss_nil)
    (dss_cons (ds_set (i := 2) sc__law_size.nd rfl (by first | exact Or.inl rfl | exact Or.inr rfl) (de_getC hr [("cat", 3), ("swap", 3), ("or", 3), ("star", 2), ("keyed", 3), ("then", 3)] (pps_cons pe_str pe_int (pps_cons pe_str pe_int (pps_cons pe_str pe_int (pps_cons pe_str pe_int (pps_cons pe_str pe_int (pps_cons pe_str pe_int pps_nil)))))) (by decide +kernel) (de_ix (de_v 0) de_int) ⟨rfl, rfl, rfl, rfl⟩))
    (dss_cons (ds_if (dt_cmp (od_ne hr) (de_b cd_len T.m_len (da_cons (de_v 0) da_nil)) (de_v 2) (nomark _)) (dss_one (ds_ret de_int)) dss_nil)
    (dss_cons (ds_setLc (i := 3) true (own := [("part", 4)]) (g := (dgName 4)) (tt := dYes) (te := (dCall1 sp__law_size (dCons (dSlot 4) (dCons (dOp (rInt (fun _ _ => True) fun i j => .int (i - j)) (dSlot 1) (dC (.int 1))) dNil)))) rfl sc__law_size.nd rfl rfl (sw_true rfl rfl rfl (by decide +kernel)) (di_it (de_slice true (de_v 0) (do_some de_int) do_none)) (blkOk_by (own := [("part", 4)]) (N := N__law_size) (sc := defScope st__law_size) (by decide +kernel)) (by decide) (fun _ _ _ _ _ => (dg_name (i := 4) sc__law_size.nd rfl (by first | exact Or.inl rfl | exact Or.inr rfl))) (fun _ _ _ _ _ => dts_nil) (fun _ _ _ _ _ => (de_call1 (c__law_size.on hT) hr gu g.xt (da_cons (de_v 4) (da_cons (de_op od_sub (de_v 1) de_int) da_nil)))))
    (dss_one (ds_ret (de_if (dt_cmp od_in de_int (de_v 3) (by with_unfolding_all rfl)) de_int (de_op (od_add true) de_int (de_b (cd_sum rfl) T.m_sum (da_cons (de_v 3) da_nil))))))))))))) read
theorem c__law_is_program {k : Nat} {TT : TT8} (T : Txt K mg) {sp__law_size : DS1} (c__law_size : Cal1 P w K TT mg base k "_law_size" sp__law_size) {sp__law_lens_parts : DS1} (c__law_lens_parts : Cal1 P w K TT mg base k "_law_lens_parts" sp__law_lens_parts) {sp__law_lens_types : DS1} (c__law_lens_types : Cal1 P w K TT mg base k "_law_lens_types" sp__law_lens_types) {sp__law_is_type : DS1} (c__law_is_type : Cal1 P w K TT mg base k "_law_is_type" sp__law_is_type) {sp : DS1} (read : ∀ ds M Q, sp ds M Q → ds.length = 1 ∧ r__law_is_program sp__law_size sp__law_lens_parts sp__law_lens_types sp__law_is_type { nx := fun _ M' => Q .non M', rt := Q } (dstart N__law_is_program ds) M) : Cal1 P w K TT mg base (k + 1) "_law_is_program" sp :=
  dcal1 T.h__law_is_program sc__law_is_program (t := r__law_is_program sp__law_size sp__law_lens_parts sp__law_lens_types sp__law_is_type) (fun f cdv A outer s H E Y E1 hT hr gu g =>
    (dss_cons (ds_if (dt_not (dt_chain od_lt od_lt de_int (de_call1 (c__law_size.on hT) hr gu g.xt (da_cons (de_v 0) (da_cons de_int da_nil))) de_int)) (dss_one (ds_ret de_bl)) dss_nil)
    (dss_cons (ds_for (passes_of rfl) rfl (di_it (de_call1 (c__law_lens_parts.on hT) hr gu g.xt (da_cons (de_v 0) (da_cons (de_tup da_nil) da_nil)))) (dg_tup rfl (dgs_cons (dg_name (i := 1) sc__law_is_program.nd rfl (by first | exact Or.inl rfl | exact Or.inr rfl)) (dgs_cons (dg_name (i := 2) sc__law_is_program.nd rfl (by first | exact Or.inl rfl | exact Or.inr rfl)) dgs_nil))) (dss_one (ds_if (dt_not (dt_val (de_b (cd_all rfl) T.m_all (da_cons (de_lc true (own := [("term", 3)]) (g := (dgName 3)) (tt := dYes) (te := (dCall1 sp__law_is_type (dCons (dSlot 3) dNil))) rfl sc__law_is_program.nd (di_it (de_call1 (c__law_lens_types.on hT) hr gu g.xt (da_cons (de_v 2) da_nil))) (blkOk_by (own := [("term", 3)]) (N := N__law_is_program) (sc := defScope st__law_is_program) (by decide +kernel)) (by decide) (fun _ _ _ _ _ => (dg_name (i := 3) sc__law_is_program.nd rfl (by first | exact Or.inl rfl | exact Or.inr rfl))) (fun _ _ _ _ _ => dts_nil) (fun _ _ _ _ _ => (de_call1 (c__law_is_type.on hT) hr gu g.xt (da_cons (de_v 3) da_nil)))) da_nil)))) (dss_one (ds_ret de_bl)) dss_nil)))
    (dss_one (ds_ret de_bl))))) read
theorem c__law_row {k : Nat} {TT : TT8} (T : Txt K mg) {sp : DS1} (read : ∀ ds M Q, sp ds M Q → ds.length = 1 ∧ r__law_row { nx := fun _ M' => Q .non M', rt := Q } (dstart N__law_row ds) M) : Cal1 P w K TT mg base (k + 1) "_law_row" sp :=
  dcal1 T.h__law_row sc__law_row (t := r__law_row) (fun f cdv A outer s H E Y E1 hT hr gu g =>
    (dss_cons (ds_setLc (i := 1) true (own := [("lap", 2)]) (g := (dgName 2)) (tt := dYes) (te := (dTup (dCons (dC (.str "copy")) (dCons (dTup (dCons (dC (.str "text")) (dCons (dC (.str "a")) dNil))) dNil)))) rfl sc__law_row.nd rfl rfl (sw_true rfl rfl rfl (by decide +kernel)) (di_range1 T.m_range (de_v 0)) (blkOk_by (own := [("lap", 2)]) (N := N__law_row) (sc := defScope st__law_row) (by decide +kernel)) (by decide) (fun _ _ _ _ _ => (dg_name (i := 2) sc__law_row.nd rfl (by first | exact Or.inl rfl | exact Or.inr rfl))) (fun _ _ _ _ _ => dts_nil) (fun _ _ _ _ _ => (de_tup (da_cons de_str (da_cons (de_tup (da_cons de_str (da_cons de_str da_nil))) da_nil)))))
    (dss_cons (ds_while (passes_of rfl) (dt_cmp od_gt (de_b cd_len T.m_len (da_cons (de_v 1) da_nil)) de_int (nomark _)) (dss_one (ds_set (i := 1) sc__law_row.nd rfl (by first | exact Or.inl rfl | exact Or.inr rfl) (de_op (od_add true) (de_slice true (de_v 1) (do_some de_int) do_none) (de_lst true (da_cons (de_tup (da_cons de_str (da_cons (de_ix (de_v 1) de_int) (da_cons (de_ix (de_v 1) de_int) da_nil)))) da_nil))))))
    (dss_one (ds_ret (de_ix (de_v 1) de_int)))))) read
theorem give__law_nested {X : Cx} {tl : DTE} (T : Txt X.K X.mg) (g f : Addr) (cdv : Value) (s : Shared) (H : Hp) (Y : KJ X.K) (app : ∀ {e : Expr} {t : DTE} {p1 p2 : Pos}, DE (Zg X N__law_nested "_law_nested" (defScope st__law_nested) g cdv s H) Y e t → starEach [e] (Zg X N__law_nested "_law_nested" (defScope st__law_nested) g cdv s H).env = (false, eval e (Zg X N__law_nested "_law_nested" (defScope st__law_nested) g cdv s H).env) :: starEach [] (Zg X N__law_nested "_law_nested" (defScope st__law_nested) g cdv s H).env → DE (Zg X N__law_nested "_law_nested" (defScope st__law_nested) g cdv s H) Y (.Call (.Name "wrap" p1) [e] [] p2) (dAppL 1 f tl t)) : DSs (Zg X N__law_nested "_law_nested" (defScope st__law_nested) g cdv s H) Y (defBody st__law_nested) (r__law_nested f tl) :=
    (dss_cons (ds_set (i := 2) sc__law_nested.nd rfl (by first | exact Or.inl rfl | exact Or.inr rfl) (de_tup (da_cons de_str (da_cons (de_tup (da_cons de_str (da_cons de_str da_nil))) da_nil))))
    (dss_cons (ds_for (passes_of rfl) rfl (di_range1 T.m_range (de_op od_sub (de_v 0) de_int)) (dg_name (i := 3) sc__law_nested.nd rfl (by first | exact Or.inl rfl | exact Or.inr rfl)) (dss_one (ds_set (i := 2) sc__law_nested.nd rfl (by first | exact Or.inl rfl | exact Or.inr rfl) (app (de_v 2) rfl))))
    (dss_one (ds_ret (de_v 2)))))
theorem c__law_bounds {k : Nat} {TT : TT8} (T : Txt K mg) {CS C_BadLens : Addr} (XK : Kns K mg CS C_BadLens) {sp__law_row : DS1} (c__law_row : Cal1 P w K TT mg base k "_law_row" sp__law_row) {cc PP : Addr} (tb : LamX.TabB base mg cc PP) (inT : (PP, lamQ "_law_bounds") ∈ TT) (onlyT : ∀ p ∈ TT, p.1 = PP → p.2 = lamQ "_law_bounds") (hL : HasL K mg "_law_bounds" st__law_bounds ["pot"] cc) {sp : DS1} (read : ∀ ds M Q, sp ds M Q → ds.length = 1 ∧ r__law_bounds sp__law_row { nx := fun _ M' => Q .non M', rt := Q } (dstart N__law_bounds ds) M) : Cal1 P w K TT mg base (k + 3) "_law_bounds" sp :=
  dcalL hL sc__law_bounds (t := fun _ => r__law_bounds sp__law_row) (fun f A outer s H E Y E1 hT hr gu g =>
    (dss_cons (ds_set (i := 1) sc__law_bounds.nd rfl (by first | exact Or.inl rfl | exact Or.inr rfl) (de_tup (da_cons de_str (da_cons (de_tup (da_cons de_str (da_cons de_str da_nil))) da_nil))))
    (dss_cons (ds_set (i := 2) sc__law_bounds.nd rfl (by first | exact Or.inl rfl | exact Or.inr rfl) (de_lst false (da_cons (de_tup (da_cons de_str (da_cons (de_tup (da_cons de_str (da_cons (de_tup (da_cons de_str (da_cons de_str da_nil))) (da_cons (de_v 1) da_nil)))) da_nil))) (da_cons (de_tup (da_cons de_str (da_cons (de_tup (da_cons de_str (da_cons (de_op (od_mul true) de_str de_int) da_nil))) (da_cons (de_op (od_mul true) de_str de_int) (da_cons (de_op (od_mul true) de_str de_int) da_nil))))) da_nil))))
    (dss_cons (ds_expr (de_append (de_v 2) (de_tup (da_cons de_str (da_cons (de_tup (da_cons de_str (da_cons de_str da_nil))) (da_cons (de_op (od_mul true) de_str de_int) (da_cons de_str da_nil)))))))
    (dss_cons (ds_expr (de_extend (de_v 2) (de_lc true (own := [("many", 3)]) (g := (dgName 3)) (tt := dYes) (te := (dTup (dCons (dC (.str "const")) (dCons (dSlot 1) (dCons (dC (.str "")) (dCons (dOp (rMulD true) (dC (.str "a")) (dSlot 3)) dNil)))))) rfl sc__law_bounds.nd (di_it (de_tup (da_cons de_int (da_cons de_int da_nil)))) (blkOk_by (own := [("many", 3)]) (N := N__law_bounds) (sc := defScope st__law_bounds) (by decide +kernel)) (by decide) (fun _ _ _ _ _ => (dg_name (i := 3) sc__law_bounds.nd rfl (by first | exact Or.inl rfl | exact Or.inr rfl))) (fun _ _ _ _ _ => dts_nil) (fun _ _ _ _ _ => (de_tup (da_cons de_str (da_cons (de_v 1) (da_cons de_str (da_cons (de_op (od_mul true) de_str (de_v 3)) da_nil)))))))))
    (dss_cons (ds_expr (de_extend (de_v 2) (de_lst true (da_cons (de_call1 ((c__law_row.mono (Nat.le_add_right _ 2)).on hT) hr gu g.xt (da_cons de_int da_nil)) (da_cons (de_call1 ((c__law_row.mono (Nat.le_add_right _ 2)).on hT) hr gu g.xt (da_cons de_int da_nil)) (da_cons (de_tup (da_cons de_str (da_cons (de_call1 ((c__law_row.mono (Nat.le_add_right _ 2)).on hT) hr gu g.xt (da_cons de_int da_nil)) da_nil))) (da_cons (de_tup (da_cons de_str (da_cons (de_tup (da_cons de_str (da_cons (de_call1 ((c__law_row.mono (Nat.le_add_right _ 2)).on hT) hr gu g.xt (da_cons de_int da_nil)) da_nil))) da_nil))) da_nil)))))))
    (dss_cons (ds_for (passes_of rfl) rfl (di_it (de_tup (da_cons de_int (da_cons de_int da_nil)))) (dg_name (i := 3) sc__law_bounds.nd rfl (by first | exact Or.inl rfl | exact Or.inr rfl)) (dss_cons (ds_expr (de_append (de_v 2) (de_lam2 (X := cxOf (L2.CX P w) P w K mg base N__law_bounds "_law_bounds" (defScope st__law_bounds) f (.ref cc) A outer s H E) (Y := Y) (y := "one") (tl := (dTup (dCons (dC (.str "star")) (dCons (dSlot 0) dNil)))) (tb := fun f => r__law_nested f (dTup (dCons (dC (.str "star")) (dCons (dSlot 0) dNil)))) T.h__law_nested sc__law_nested (by exact ⟨rfl, rfl, rfl, by decide +kernel, rfl, by decide +kernel, by decide +kernel⟩) tb rfl (by rw [hT]; exact inT) (by rw [hT]; exact onlyT) hr gu g.xt (de_v 3) (fun A outer s H f c' Y' => (de_tup (da_cons de_str (da_cons (de_v 0) da_nil)))) (fun g f cdv s H Y' r app => give__law_nested T g f cdv s H Y' app))))
    (dss_one (ds_expr (de_append (de_v 2) (de_lam2 (X := cxOf (L2.CX P w) P w K mg base N__law_bounds "_law_bounds" (defScope st__law_bounds) f (.ref cc) A outer s H E) (Y := Y) (y := "one") (tl := (dTup (dCons (dC (.str "or")) (dCons (dSlot 0) (dCons (dTup (dCons (dC (.str "copy")) (dCons (dTup (dCons (dC (.str "text")) (dCons (dC (.str "b")) dNil))) dNil))) dNil))))) (tb := fun f => r__law_nested f (dTup (dCons (dC (.str "or")) (dCons (dSlot 0) (dCons (dTup (dCons (dC (.str "copy")) (dCons (dTup (dCons (dC (.str "text")) (dCons (dC (.str "b")) dNil))) dNil))) dNil))))) T.h__law_nested sc__law_nested (by exact ⟨rfl, rfl, rfl, by decide +kernel, rfl, by decide +kernel, by decide +kernel⟩) tb rfl (by rw [hT]; exact inT) (by rw [hT]; exact onlyT) hr gu g.xt (de_v 3) (fun A outer s H f c' Y' => (de_tup (da_cons de_str (da_cons (de_v 0) (da_cons (de_tup (da_cons de_str (da_cons (de_tup (da_cons de_str (da_cons de_str da_nil))) da_nil))) da_nil))))) (fun g f cdv s H Y' r app => give__law_nested T g f cdv s H Y' app)))))))
    (dss_cons (ds_for (passes_of rfl) rfl (di_it (de_tup (da_cons de_int (da_cons de_int da_nil)))) (dg_name (i := 3) sc__law_bounds.nd rfl (by first | exact Or.inl rfl | exact Or.inr rfl)) (dss_cons (ds_set (i := 4) sc__law_bounds.nd rfl (by first | exact Or.inl rfl | exact Or.inr rfl) (de_tup (da_cons de_str (da_cons de_str da_nil))))
    (dss_cons (ds_for (passes_of rfl) rfl (di_range1 T.m_range (de_op od_sub (de_v 3) de_int)) (dg_name (i := 5) sc__law_bounds.nd rfl (by first | exact Or.inl rfl | exact Or.inr rfl)) (dss_one (ds_set (i := 4) sc__law_bounds.nd rfl (by first | exact Or.inl rfl | exact Or.inr rfl) (de_tup (da_cons de_str (da_cons (de_v 4) da_nil))))))
    (dss_one (ds_expr (de_append (de_v 2) (de_tup (da_cons de_str (da_cons (de_v 4) da_nil)))))))))
    (dss_cons (ds_for (passes_of rfl) rfl (di_it (de_tup (da_cons de_int (da_cons de_int da_nil)))) (dg_name (i := 3) sc__law_bounds.nd rfl (by first | exact Or.inl rfl | exact Or.inr rfl)) (dss_cons (ds_setLc (i := 6) true (own := [("lap", 5)]) (g := (dgName 5)) (tt := dYes) (te := (dTup (dCons (dC (.str "text")) (dCons (dC (.str "a")) dNil)))) rfl sc__law_bounds.nd rfl rfl (sw_true rfl rfl rfl (by decide +kernel)) (di_range1 T.m_range (de_v 3)) (blkOk_by (own := [("lap", 5)]) (N := N__law_bounds) (sc := defScope st__law_bounds) (by decide +kernel)) (by decide) (fun _ _ _ _ _ => (dg_name (i := 5) sc__law_bounds.nd rfl (by first | exact Or.inl rfl | exact Or.inr rfl))) (fun _ _ _ _ _ => dts_nil) (fun _ _ _ _ _ => (de_tup (da_cons de_str (da_cons de_str da_nil)))))
    (dss_cons (ds_while (passes_of rfl) (dt_cmp od_gt (de_b cd_len T.m_len (da_cons (de_v 6) da_nil)) de_int (nomark _)) (dss_one (ds_set (i := 6) sc__law_bounds.nd rfl (by first | exact Or.inl rfl | exact Or.inr rfl) (de_op (od_add true) (de_slice true (de_v 6) (do_some de_int) do_none) (de_lst true (da_cons (de_tup (da_cons de_str (da_cons (de_ix (de_v 6) de_int) (da_cons (de_ix (de_v 6) de_int) da_nil)))) da_nil))))))
    (dss_one (ds_expr (de_append (de_v 2) (de_tup (da_cons de_str (da_cons (de_ix (de_v 6) de_int) da_nil)))))))))
    (dss_one (ds_ret (de_hold (de_v 2))))))))))))) (fun ds M Q E => read ds M Q)
theorem c__law_right {k : Nat} {TT : TT8} (T : Txt K mg) {CS C_BadLens : Addr} (XK : Kns K mg CS C_BadLens) {f_view_type : Addr} (g_view_type : Glob K mg "view_type" (.ref f_view_type)) {f_source_type : Addr} (g_source_type : Glob K mg "source_type" (.ref f_source_type)) {S_call : Addr → DSp → Prop} (a_call : ∀ f sp, S_call f sp → CalA P w K TT mg base k f sp) {sp__law_is_program : DS1} (c__law_is_program : Cal1 P w K TT mg base k "_law_is_program" sp__law_is_program) {sp_is_program : DS1} (c_is_program : Cal1 P w K TT mg base k "is_program" sp_is_program) {sp__law_lens_types : DS1} (c__law_lens_types : Cal1 P w K TT mg base k "_law_lens_types" sp__law_lens_types) {cc PP : Addr} (tb : LamX.TabB base mg cc PP) (inT : (PP, lamQ "_law_right") ∈ TT) (onlyT : ∀ p ∈ TT, p.1 = PP → p.2 = lamQ "_law_right") (hL : HasL K mg "_law_right" st__law_right ["value"] cc) {sp : DS1} (read : ∀ ds M Q, sp ds M Q → ds.length = 1 ∧ r__law_right f_view_type f_source_type S_call sp__law_is_program sp_is_program sp__law_lens_types { nx := fun _ M' => Q .non M', rt := Q } (dstart N__law_right ds) M) : Cal1 P w K TT mg base (k + 3) "_law_right" sp :=
  dcalL hL sc__law_right (t := fun _ => r__law_right f_view_type f_source_type S_call sp__law_is_program sp_is_program sp__law_lens_types) (fun f A outer s H E Y E1 hT hr gu g =>
    (dss_cons (ds_par (i := 1) (j := 2) rfl sc__law_right.nd rfl rfl (by decide) rfl rfl (da_cons (de_call1 ((c__law_is_program.mono (Nat.le_add_right _ 2)).on hT) hr gu g.xt (da_cons (de_v 0) da_nil)) (da_cons (de_call1 ((c_is_program.mono (Nat.le_add_right _ 2)).on hT) hr gu g.xt (da_cons (de_v 0) da_nil)) da_nil)))
    (dss_cons (ds_if (dt_w (dw_or (dt_not (dt_val (de_isi T.m_isinstance T.m_bool (de_v 2)))) (dw_or1 (dt_cmp (od_ne hr) (de_v 2) (de_v 1) (nomark _))))) (dss_one (ds_ret de_bl)) dss_nil)
    (dss_cons (ds_for (passes_of rfl) rfl (di_enumT T.m_enumerate (de_tup (da_cons (de_g g_source_type) (da_cons (de_g g_view_type) da_nil)))) (dg_tup rfl (dgs_cons (dg_name (i := 3) sc__law_right.nd rfl (by first | exact Or.inl rfl | exact Or.inr rfl)) (dgs_cons (dg_name (i := 4) sc__law_right.nd rfl (by first | exact Or.inl rfl | exact Or.inr rfl)) dgs_nil))) (dss_cons (ds_asg (de_heard (X := cxOf (L2.CX P w) P w K mg base N__law_right "_law_right" (defScope st__law_right) f (.ref cc) A outer s H E) (Y := Y) (ok := kn) (td := fun E1 => (dCallV 4 S_call (dCons (dSlot 0) dNil) E1)) T.h__law_heard sc__law_heard (give_heard XK.mT) tb rfl (by rw [hT]; exact inT) (by rw [hT]; exact onlyT) XK.sub hr gu g.xt (LamX.lamS_by (sc := defScope st__law_right) (by decide +kernel)) (fun A outer s H E f c' Y' E1 hT' hr gu g => (de_callV (i := 4) (fun f sp h => (a_call f sp h).on (hT'.trans hT)) hr gu g (da_cons (de_v 0) da_nil)))) (dg_tup rfl (dgs_cons (dg_name (i := 5) sc__law_right.nd rfl (by first | exact Or.inl rfl | exact Or.inr rfl)) (dgs_cons (dg_name (i := 6) sc__law_right.nd rfl (by first | exact Or.inl rfl | exact Or.inr rfl)) dgs_nil))))
    (dss_cons (ds_if (dt_w (dw_and (dt_val (de_v 1)) (dw_and1 (dt_w (dw_or (dt_cmp od_isNot (de_v 5) de_non (nomark _)) (dw_or1 (dt_cmp (od_ne hr) (de_b (cd_repr hr gu) T.m_repr (da_cons (de_v 6) da_nil)) (de_b (cd_repr hr gu) T.m_repr (da_cons (de_ix (de_call1 ((c__law_lens_types.mono (Nat.le_add_right _ 2)).on hT) hr gu g.xt (da_cons (de_v 0) da_nil)) (de_v 3)) da_nil)) (nomark _)))))))) (dss_one (ds_ret de_bl)) dss_nil)
    (dss_one (ds_if (dt_w (dw_and (dt_not (dt_val (de_v 1))) (dw_and1 (dt_w (dw_or (dt_not (dt_val (de_isE XK.known XK.sub_BadLens T.m_isinstance XK.m_BadLens (de_v 5)))) (dw_or1 (dt_cmp (od_ne hr) (de_b (cd_repr hr gu) T.m_repr (da_cons (de_excV XK.known (de_v 5)) da_nil)) (de_b (cd_repr hr gu) T.m_repr (da_cons (de_v 0) da_nil)) (nomark _)))))))) (dss_one (ds_ret de_bl)) dss_nil)))))
    (dss_one (ds_ret de_bl)))))) (fun ds M Q E => read ds M Q)
theorem c_law {k : Nat} {TT : TT8} (T : Txt K mg) {sp__law_places : DS1} (c__law_places : Cal1 P w K TT mg base k "_law_places" sp__law_places) {sp__law_pot : DS1} (c__law_pot : Cal1 P w K TT mg base k "_law_pot" sp__law_pot) {sp__law_lens_drawn : DS1} (c__law_lens_drawn : Cal1 P w K TT mg base k "_law_lens_drawn" sp__law_lens_drawn) {sp__law_odd : DS1} (c__law_odd : Cal1 P w K TT mg base k "_law_odd" sp__law_odd) {sp__law_bent : DS1} (c__law_bent : Cal1 P w K TT mg base k "_law_bent" sp__law_bent) {sp__law_bounds : DS1} (c__law_bounds : Cal1 P w K TT mg base k "_law_bounds" sp__law_bounds) {sp__law_right : DS1} (c__law_right : Cal1 P w K TT mg base k "_law_right" sp__law_right) {sp : DS1} {f : Addr} {oc : Value} {od : Option Addr} {dV kV doc pm : Value} {an : Option Addr} {cd ct : Value} {osl : Array (Option Value)} (lk : K.lookup f = some ⟨oc, od, .func (PySem.W.fnOf "law" "law" (defArgs st_law) (defBody st_law) (defScope st_law) dV kV doc pm an cd ct), osl⟩) (hcd : PySem.W.codeIn K cd "law" = true) (read : ∀ ds M Q, sp ds M Q → ds.length = 1 ∧ r_law sp__law_places sp__law_pot sp__law_lens_drawn sp__law_odd sp__law_bent sp__law_bounds sp__law_right { nx := fun _ M' => Q .non M', rt := Q } (dstart N_law ds) M) : GnOk P w K mg base (L2.CX P w) (k + 1) f (PySem.W.fnOf "law" "law" (defArgs st_law) (defBody st_law) (defScope st_law) dV kV doc pm an cd ct) ["script"] (lift K TT (quiet sp)) :=
  dgn lk hcd sc_law (t := fun _ => r_law sp__law_places sp__law_pot sp__law_lens_drawn sp__law_odd sp__law_bent sp__law_bounds sp__law_right) (fun cdv A outer s H E Y E1 hT hr gu g =>
    (dss_cons (ds_for (passes_of rfl) rfl (di_it (de_call1 (c__law_places.on hT) hr gu g.xt (da_cons (de_v 0) (da_cons de_int da_nil)))) (dg_name (i := 1) sc_law.nd rfl (by first | exact Or.inl rfl | exact Or.inr rfl)) (dss_cons (ds_set (i := 2) sc_law.nd rfl (by first | exact Or.inl rfl | exact Or.inr rfl) (de_call1 (c__law_pot.on hT) hr gu g.xt (da_cons (de_v 0) (da_cons (de_v 1) da_nil))))
    (dss_cons (ds_set (i := 3) sc_law.nd rfl (by first | exact Or.inl rfl | exact Or.inr rfl) (de_call1 (c__law_lens_drawn.on hT) hr gu g.xt (da_cons (de_v 2) (da_cons de_int da_nil))))
    (dss_cons (ds_set (i := 4) sc_law.nd rfl (by first | exact Or.inl rfl | exact Or.inr rfl) (de_lst false (da_cons (de_v 3) (da_cons (de_call1 (c__law_odd.on hT) hr gu g.xt (da_cons (de_v 2) da_nil)) (da_cons (de_slice true (de_v 3) (do_some de_int) do_none) (da_cons (de_tup (da_cons (de_v 3) da_nil)) (da_cons (de_op (od_add true) (de_v 3) (de_tup (da_cons (de_v 3) da_nil))) (da_cons (de_tup (da_cons (de_ix (de_v 3) de_int) da_nil)) da_nil))))))))
    (dss_cons (ds_expr (de_extend (de_v 4) (de_lc true (own := [("lap", 5)]) (g := (dgName 5)) (tt := dYes) (te := (dCall1 sp__law_bent (dCons (dSlot 2) (dCons (dSlot 3) dNil)))) rfl sc_law.nd (di_range1 T.m_range de_int) (blkOk_by (own := [("lap", 5)]) (N := N_law) (sc := defScope st_law) (by decide +kernel)) (by decide) (fun _ _ _ _ _ => (dg_name (i := 5) sc_law.nd rfl (by first | exact Or.inl rfl | exact Or.inr rfl))) (fun _ _ _ _ _ => dts_nil) (fun _ _ _ _ _ => (de_call1 (c__law_bent.on hT) hr gu g.xt (da_cons (de_v 2) (da_cons (de_v 3) da_nil)))))))
    (dss_cons (ds_if (dt_cmp (od_eq hr) (de_v 1) de_int (nomark _)) (dss_one (ds_expr (de_extend (de_v 4) (de_call1 (c__law_bounds.on hT) hr gu g.xt (da_cons (de_v 2) da_nil))))) dss_nil)
    (dss_one (ds_if (dt_not (dt_val (de_b (cd_all rfl) T.m_all (da_cons (de_lc true (own := [("value", 6)]) (g := (dgName 6)) (tt := dYes) (te := (dCall1 sp__law_right (dCons (dSlot 6) dNil))) rfl sc_law.nd (di_it (de_v 4)) (blkOk_by (own := [("value", 6)]) (N := N_law) (sc := defScope st_law) (by decide +kernel)) (by decide) (fun _ _ _ _ _ => (dg_name (i := 6) sc_law.nd rfl (by first | exact Or.inl rfl | exact Or.inr rfl))) (fun _ _ _ _ _ => dts_nil) (fun _ _ _ _ _ => (de_call1 (c__law_right.on hT) hr gu g.xt (da_cons (de_v 6) da_nil)))) da_nil)))) (dss_one (ds_ret de_bl)) dss_nil))))))))
    (dss_one (ds_ret de_bl)))) (fun ds M Q E => read ds M Q)
end
end K27

set_option maxHeartbeats 4000000
/-! KB1: basics of the laws' readings, of no law's own: bounded data, pots, repr. -/
namespace KB
open PySem PySem.Spec DL
open L2 (atI ixN)
open PyProof.Rows hiding St signs
def sg (c : Nat) : Str := ⟨#[c]⟩
theorem sg_inj {a b : Nat} (h : sg a = sg b) : a = b := by
  have := congrArg (fun s : Str => s.cps.toList) h
  simpa [sg] using this
theorem sgs_of : ∀ {ys : List Str}, (∀ y ∈ ys, ∃ c, y = sg c) → ∃ ms : List Nat, ys = ms.map sg
  | [], _ => ⟨[], rfl⟩
  | y :: ys, h => by
    obtain ⟨c, rfl⟩ := h y List.mem_cons_self
    obtain ⟨ms, rfl⟩ := sgs_of fun z hz => h z (List.mem_cons_of_mem _ hz)
    exact ⟨c :: ms, rfl⟩
theorem app_list (a b : Str) : (a ++ b).cps.toList = a.cps.toList ++ b.cps.toList := by
  show (a.cps ++ b.cps).toList = _
  simp
theorem join_list : ∀ ss : List Str, (Txt.join (Str.ofString "") ss).cps.toList = (ss.map fun s : Str => s.cps.toList).flatten := by
  intro ss
  unfold Txt.join
  rw [StrLaws.glued_eq_join]
  induction ss with
  | nil => rfl
  | cons a r ih =>
    cases r with
    | nil => simp [Str.join]
    | cons b r =>
      have e : (Str.ofString "").cps.toList = [] := by decide
      rw [Str.join, app_list, app_list, ih, e, List.map_cons, List.flatten_cons, List.append_nil]
      · simp
      · simp
theorem flat_sg : ∀ ms : List Nat, ((ms.map sg).map fun s : Str => s.cps.toList).flatten = ms
  | [] => rfl
  | m :: ms => by
    rw [List.map_cons, List.map_cons, List.flatten_cons, flat_sg ms]
    rfl
theorem gl_sg (ms : List Nat) : Txt.join (Str.ofString "") (ms.map sg) = ⟨ms.toArray⟩ := by
  have h := join_list (ms.map sg)
  rw [flat_sg] at h
  generalize Txt.join (Str.ofString "") (ms.map sg) = z at h
  obtain ⟨⟨l⟩⟩ := z
  have : l = ms := h
  rw [this]
def tupB (v : DL.D) (lo hi : Int) : Bool := match v with
  | .tup xs => decide (lo ≤ xs.length) && decide ((xs.length : Int) ≤ hi)
  | _ => false
def plain : DL.D → Bool
  | .ref _ => false
  | .exc _ _ => false
  | .str x => decide (x.cps.size ≤ 100000)
  | _ => true
theorem any_eqV (x : Str) : ∀ ws : List Str, (ws.any ((fun y => L2.eqV (vOf y) (vOf (D.str x))) ∘ D.str)) = decide (x ∈ ws)
  | [] => rfl
  | w :: ws => by
    rw [List.any_cons, any_eqV x ws]
    have : ((fun y => L2.eqV (vOf y) (vOf (D.str x))) ∘ D.str) w = decide (x = w) := by
      show (w == x) = _
      by_cases h : x = w
      · subst h; simp
      · simp [h, Ne.symm h]
    rw [this]
    by_cases h : x = w <;> simp [h]
theorem all_flat (ws : List Str) : (ws.map D.str).all flatD = true := by
  rw [List.all_map]; exact List.all_eq_true.mpr fun _ _ => rfl
/-- x in (a tuple of texts) -/
theorem in_texts {neg : Bool} {x : Str} {ws : List Str} {M : Mp} {Q : DK} (q : Q (.bl (if neg then !decide (x ∈ ws) else decide (x ∈ ws))) M) : DL.rInD neg (.str x) (.tup (ws.map D.str)) M Q := by
  refine ⟨_, rfl, rfl, all_flat ws, ?_⟩
  rw [List.any_map, any_eqV]
  exact q
theorem op_in_texts {neg : Bool} {x : Str} (ws : List Str) {e : DL.D} {t : DTE} {ρ : Rho} {M : Mp} {Q : DK} (he : e = .tup (ws.map D.str)) (ht : ∀ Q' : DK, Q' (.str x) M → t ρ M Q')
    (q : Q (.bl (if neg then !decide (x ∈ ws) else decide (x ∈ ws))) M) : dOp (DL.rInD neg) t (dC e) ρ M Q := by
  subst he
  exact ht _ (in_texts q)
abbrev SIG : Str := "\x0a ,-.0123456789:;=abcdefghijklmnopqrstuvwxyz"
def okSign (c : Nat) : Bool := decide (c ∈ SIG.cps.toList)
theorem small {n : Nat} (h : n ≤ 100000) : n ≤ sizeLine := by rw [sizeLine_eq]; omega
theorem ix0 {x : DL.D} {r : List DL.D} : atI (x :: r) 0 = some x := L2.atI_nat (j := 0) rfl
theorem ix1 {x y : DL.D} {r : List DL.D} : atI (x :: y :: r) 1 = some y := L2.atI_nat (j := 1) rfl
theorem cut1 {α : Type} (l : List α) : DL.cutD l (some 1) none = l.tail := by
  unfold DL.cutD
  rw [show (1 : Int) = ((1 : Nat) : Int) from rfl, HT.sIx_nat, HT.sIx_none]
  cases l with
  | nil => rfl
  | cons a r =>
    have e : min 1 (a :: r).length = 1 := by simp
    rw [e, List.drop_one, List.tail_cons, List.length_cons, Nat.add_sub_cancel]
    exact List.take_length
theorem cutS1 (x : Str) : (L2.cutS x (some 1) none).cps.toList = x.cps.toList.tail := by
  rw [← cut1 x.cps.toList]
  unfold L2.cutS DL.cutD
  rw [Array.length_toList]
  rfl
mutual
/-- plain data of a bounded size -/
def gd : DL.D → Bool
  | .non => true
  | .bl _ => true
  | .int i => decide (i.natAbs.log2 < 1900)
  | .str x => decide (x.cps.size ≤ 100000) && x.cps.toList.all fun c => decide (c < 128)
  | .tup xs => decide (xs.length ≤ 100000) && gdAll xs
  | .lst xs => decide (xs.length ≤ 100000) && gdAll xs
  | _ => false
def gdAll : List DL.D → Bool
  | [] => true
  | x :: xs => gd x && gdAll xs
end
theorem gdAll_iff : ∀ {xs : List DL.D}, gdAll xs = true ↔ ∀ x ∈ xs, gd x = true
  | [] => by simp [gdAll]
  | x :: xs => by simp [gdAll, gdAll_iff (xs := xs)]
theorem gd_tup {xs : List DL.D} : gd (.tup xs) = true ↔ xs.length ≤ 100000 ∧ ∀ x ∈ xs, gd x = true := by
  simp [gd, gdAll_iff]
theorem gd_lst {xs : List DL.D} : gd (.lst xs) = true ↔ xs.length ≤ 100000 ∧ ∀ x ∈ xs, gd x = true := by
  simp [gd, gdAll_iff]
theorem gd_str {x : Str} : gd (.str x) = true ↔ x.cps.size ≤ 100000 ∧ ∀ c ∈ x.cps.toList, c < 128 := by
  rw [gd, Bool.and_eq_true, decide_eq_true_eq, List.all_eq_true]
  simp only [decide_eq_true_eq]
theorem gd_plain {v : DL.D} (h : gd v = true) : plain v = true := by
  cases v <;> first | rfl | (simp [gd] at h; done) | skip
  simp only [plain]
  exact decide_eq_true (gd_str.mp h).1
mutual
def dep : DL.D → Nat
  | .tup xs => depAll xs + 1
  | .lst xs => depAll xs + 1
  | _ => 0
def depAll : List DL.D → Nat
  | [] => 0
  | x :: xs => max (dep x) (depAll xs)
end
theorem depAll_le {n : Nat} : ∀ {xs : List DL.D}, depAll xs ≤ n ↔ ∀ x ∈ xs, dep x ≤ n
  | [] => by simp [depAll]
  | x :: xs => by simp [depAll, Nat.max_le, depAll_le (xs := xs)]
mutual
theorem py_gd : ∀ (v : DL.D), gd v = true → ∃ p, v.py = some p ∧ p.showable = true ∧ p.canLay0 = true ∧ p.depth = dep v
  | .non, _ => ⟨.none, rfl, rfl, rfl, rfl⟩
  | .bl b, _ => ⟨.bool b, rfl, rfl, rfl, rfl⟩
  | .int i, h => by
    have h' : i.natAbs.log2 < 1900 := by simpa [gd] using h
    refine ⟨.int i, rfl, ?_, rfl, rfl⟩
    simp [PyData.showable]; omega
  | .str x, h => by
    refine ⟨.str x, rfl, rfl, ?_, rfl⟩
    have h' := (gd_str.mp h).2
    simp only [PyData.canLay0, PyData.strOk]
    rw [← Array.all_toList]
    exact List.all_eq_true.mpr fun c hc => by
      have := h' c hc
      simp; omega
  | .tup xs, h => by
    obtain ⟨ps, e, h1, h2, h3⟩ := pyAll_gd xs (gd_tup.mp h).2
    exact ⟨.tuple ps, by simp [D.py, e], by simpa [PyData.showable] using h1, by simpa [PyData.canLay0] using h2, by simp [PyData.depth, dep, h3]⟩
  | .lst xs, h => by
    obtain ⟨ps, e, h1, h2, h3⟩ := pyAll_gd xs (gd_lst.mp h).2
    exact ⟨.list ps, by simp [D.py, e], by simpa [PyData.showable] using h1, by simpa [PyData.canLay0] using h2, by simp [PyData.depth, dep, h3]⟩
  | .slst xs, h => by simp [gd] at h
  | .ref a, h => by simp [gd] at h
  | .dct a b, h => by simp [gd] at h
theorem pyAll_gd : ∀ (xs : List DL.D), (∀ x ∈ xs, gd x = true) → ∃ ps, pyAll xs = some ps ∧ PyData.showableAll ps = true ∧ PyData.canLayAll0 ps = true ∧ PyData.depthAll ps = depAll xs
  | [], _ => ⟨[], rfl, rfl, rfl, rfl⟩
  | x :: xs, h => by
    obtain ⟨p, e, h1, h2, h3⟩ := py_gd x (h x List.mem_cons_self)
    obtain ⟨ps, e', g1, g2, g3⟩ := pyAll_gd xs fun y hy => h y (List.mem_cons_of_mem _ hy)
    exact ⟨p :: ps, by simp [pyAll, e, e'], by simp [PyData.showableAll, h1, g1], by simp [PyData.canLayAll0, h2, g2], by simp [PyData.depthAll, depAll, h3, g3]⟩
end

theorem newTr {ds : List DL.D} {M : Mp} {Q : DK} (h : Q (.lst ds) M) : newL true ds M Q := h
theorem ne_nil {M : Mp} {a : Addr} {xs : List DL.D} {Q : DK} (h : M a = some (.lst xs)) (g : ∀ x ∈ xs, gd x = true) (d : depAll xs ≤ 63) (q : Q (.bl (!xs.isEmpty)) M) : rEqD2 true (.ref a) (.lst []) M Q := by
  obtain ⟨ps, e, h1, h2, h3⟩ := pyAll_gd xs g
  refine ⟨.list ps, .list [], ?_, rfl, ?_, by decide, ?_⟩
  · show (match mol (M a) with | some xs => _ | none => none) = _
    rw [h]
    show (match pyAll xs with | some ps => some (PyData.list ps) | none => none) = _
    rw [e]
  · unfold SeqAt.shaped
    simp only [PyData.canLay0, PyData.depth, h2, h3, Bool.true_and, decide_eq_true_eq]
    omega
  · have : PyData.eqv (.list ps) (.list []) = xs.isEmpty := by
      cases xs with
      | nil => simp [pyAll] at e; subst e; rfl
      | cons x xs =>
        simp only [pyAll] at e
        split at e
        · cases e; rfl
        · cases e
    rw [if_pos rfl, this]
    exact q
mutual
def wt : DL.D → Nat
  | .str x => x.cps.size
  | .tup xs => wtAll xs
  | .lst xs => wtAll xs
  | _ => 0
def wtAll : List DL.D → Nat
  | [] => 0
  | x :: xs => wt x + 1 + wtAll xs
end
mutual
theorem bulk_gd : ∀ (v : DL.D) (p : PyData), gd v = true → v.py = some p → p.bulk = wt v ∧ p.leavesShort 1921 = true
  | .non, _, _, h => by cases h; exact ⟨rfl, rfl⟩
  | .bl b, _, _, h => by cases h; exact ⟨rfl, rfl⟩
  | .int i, _, g, h => by
    cases h
    refine ⟨rfl, ?_⟩
    have g' : i.natAbs.log2 < 1900 := by simpa [gd] using g
    exact decide_eq_true (int_text_len_1921 (by omega))
  | .str x, _, g, h => by
    cases h
    refine ⟨rfl, ?_⟩
    exact List.all_eq_true.mpr fun c hc => decide_eq_true (by have := (gd_str.mp g).2 c hc; omega)
  | .tup xs, p, g, h => by
    simp only [D.py] at h
    split at h
    · rename_i ps e
      cases h
      obtain ⟨h1, h2⟩ := bulkAll_gd xs ps (gd_tup.mp g).2 e
      exact ⟨by simpa [PyData.bulk, wt] using h1, by simpa [PyData.leavesShort] using h2⟩
    · cases h
  | .lst xs, p, g, h => by
    simp only [D.py] at h
    split at h
    · rename_i ps e
      cases h
      obtain ⟨h1, h2⟩ := bulkAll_gd xs ps (gd_lst.mp g).2 e
      exact ⟨by simpa [PyData.bulk, wt] using h1, by simpa [PyData.leavesShort] using h2⟩
    · cases h
  | .slst xs, _, g, _ => by simp [gd] at g
  | .ref a, _, g, _ => by simp [gd] at g
  | .dct a b, _, g, _ => by simp [gd] at g
theorem bulkAll_gd : ∀ (xs : List DL.D) (ps : List PyData), (∀ x ∈ xs, gd x = true) → pyAll xs = some ps → PyData.bulkAll ps = wtAll xs ∧ PyData.leavesShortAll 1921 ps = true
  | [], _, _, h => by cases h; exact ⟨rfl, rfl⟩
  | x :: xs, ps, g, h => by
    simp only [pyAll] at h
    split at h
    · rename_i p ps' e e'
      cases h
      obtain ⟨h1, h2⟩ := bulk_gd x p (g x List.mem_cons_self) e
      obtain ⟨g1, g2⟩ := bulkAll_gd xs ps' (fun y hy => g y (List.mem_cons_of_mem _ hy)) e'
      exact ⟨by simp [PyData.bulkAll, wtAll, h1, g1], by simp [PyData.leavesShortAll, h2, g2]⟩
    · cases h
end
theorem pyM_gd {v : DL.D} {M : Mp} {p : PyData} (g : gd v = true) (h : v.py = some p) : pyM M v = some p := by
  cases v <;> first | exact h | (simp [gd] at g)
/-- repr of a value that is not too great -/
theorem repr_gd {v : DL.D} (g : gd v = true) (d : dep v ≤ 60) (wv : wt v ≤ 8000) : ∃ s : Str, ∀ (M : Mp) (Q : DK), Q (.str s) M → rReprD [v] M Q := by
  obtain ⟨p, e, h1, h2, h3⟩ := py_gd v g
  obtain ⟨b, l⟩ := bulk_gd v p g e
  refine ⟨p.shown, fun M Q q => ⟨v, p, rfl, pyM_gd g e, h1, by omega, ?_, q⟩⟩
  have := PyData.shown_le_bulk 1921 (by decide) p l
  rw [b] at this
  have m : (1921 + 2) * wt v ≤ (1921 + 2) * 8000 := Nat.mul_le_mul_left _ wv
  rw [sizeLine_eq]
  omega
theorem repr_op {v : DL.D} {s : Str} (hs : ∀ (M : Mp) (Q : DK), Q (.str s) M → rReprD [v] M Q) {t : DTE} {ρ : Rho} {M : Mp} {Q : DK} (ht : ∀ Q' : DK, Q' v M → t ρ M Q') (q : Q (.str s) M) : dCB rReprD (dCons t dNil) ρ M Q :=
  ht _ (hs M Q q)
theorem ix_ref {M : Mp} {a : Addr} {xs : List DL.D} {i : Int} {d : DL.D} {Q : DK} (h : M a = some (.lst xs)) (e : atI xs i = some d) (q : Q d M) : DL.rIxD (.ref a) (.int i) M Q :=
  ⟨xs, d, by show mol (M a) = _; rw [h]; rfl, e, q⟩
theorem mul_ok {fz : Bool} {i j : Int} {M : Mp} {Q : DK} (hi : i.natAbs < 2 ^ 64) (hj : j.natAbs < 2 ^ 64) (q : Q (.int (i * j)) M) : rMulD fz (.int i) (.int j) M Q := ⟨⟨64, 64, hi, hj, by decide⟩, q⟩
theorem at3_0 {x y z : DL.D} : atI [x, y, z] 0 = some x := L2.atI_nat (j := 0) rfl
theorem at3_1 {x y z : DL.D} : atI [x, y, z] 1 = some y := L2.atI_nat (j := 1) rfl
theorem at3_2 {x y z : DL.D} : atI [x, y, z] 2 = some z := L2.atI_nat (j := 2) rfl
/-- the pot at a: what it holds, drawn from at most c times -/
def Pot (M : Mp) (a : Addr) (c : Nat) : Prop := ∃ own mix cnt : Int, M a = some (.lst [.int own, .int mix, .int cnt]) ∧ 0 ≤ own ∧ 0 ≤ mix ∧ mix < 2305843009213693951 ∧ 0 ≤ cnt ∧ cnt ≤ c
/-- drawn from, nothing else touched -/
def Dr (M : Mp) (a : Addr) (M' : Mp) (c : Nat) : Prop := Pot M' a c ∧ ∀ b, b ≠ a → M' b = M b
theorem Dr.trans {M M1 M2 : Mp} {a : Addr} {c c' : Nat} (h : Dr M a M1 c) (h2 : Dr M1 a M2 c') : Dr M a M2 c' := ⟨h2.1, fun b hb => (h2.2 b hb).trans (h.2 b hb)⟩
theorem Dr.up {M M1 : Mp} {a : Addr} {c c' : Nat} (h : Dr M a M1 c) (hc : c ≤ c') : Dr M a M1 c' := by
  obtain ⟨⟨own, mix, cnt, e, h1, h2, h3, h4, h5⟩, f⟩ := h
  exact ⟨⟨own, mix, cnt, e, h1, h2, h3, h4, by omega⟩, f⟩
theorem Dr.refl {M : Mp} {a : Addr} {c : Nat} (h : Pot M a c) : Dr M a M c := ⟨h, fun _ _ => rfl⟩
theorem Pot.up {M : Mp} {a : Addr} {c c' : Nat} (h : Pot M a c) (hc : c ≤ c') : Pot M a c' := ((Dr.refl h).up hc).1
theorem set0 {x y z v : DL.D} {M : Mp} {a : Addr} (h : M a = some (.lst [x, y, z])) {Q : Mp → Prop} (q : Q (mu M a (.lst [v, y, z]))) : rSetD (.ref a) (.int 0) v M Q :=
  ⟨a, _, 0, 0, rfl, rfl, h, rfl, q⟩
theorem set2 {x y z v : DL.D} {M : Mp} {a : Addr} (h : M a = some (.lst [x, y, z])) {Q : Mp → Prop} (q : Q (mu M a (.lst [x, y, v]))) : rSetD (.ref a) (.int 2) v M Q :=
  ⟨a, _, 2, 2, rfl, rfl, h, rfl, q⟩
theorem primes {m : Int} (h0 : 0 ≤ m) (h5 : m < 5) : ∃ p : Int, atI [D.int 2147483647, .int 2147483629, .int 2147483587, .int 2147483579, .int 2147483563] m = some (.int p) ∧ 0 < p ∧ p < 2147483648 := by
  rcases (show m = 0 ∨ m = 1 ∨ m = 2 ∨ m = 3 ∨ m = 4 by omega) with rfl | rfl | rfl | rfl | rfl
  · exact ⟨_, rfl, by decide, by decide⟩
  · exact ⟨_, rfl, by decide, by decide⟩
  · exact ⟨_, rfl, by decide, by decide⟩
  · exact ⟨_, rfl, by decide, by decide⟩
  · exact ⟨_, rfl, by decide, by decide⟩
theorem sg_sum : ∀ ms : List Nat, ((ms.map sg).map (·.length)).sum = ms.length
  | [] => rfl
  | m :: ms => by
    rw [List.map_cons, List.map_cons, List.sum_cons, sg_sum ms, List.length_cons]
    show 1 + _ = _
    omega
theorem nat_sum (l : List Nat) : ((l.map fun n : Nat => (n : Int)).sum) = (l.sum : Nat) := by
  induction l with
  | nil => rfl
  | cons a l ih => simp [ih]
theorem at_in {α : Type} {xs : List α} {d : Int} (h0 : 0 ≤ d) (h1 : d < xs.length) : ∃ y ∈ xs, atI xs d = some y := by
  obtain ⟨n, rfl⟩ := Int.eq_ofNat_of_zero_le h0
  have hn : n < xs.length := by omega
  exact ⟨xs[n], List.getElem_mem hn, L2.atI_nat (List.getElem?_eq_getElem hn)⟩
theorem Pot.ne {M : Mp} {a b : Addr} {c : Nat} (p : Pot M a c) (h : M b = none) : b ≠ a := by
  obtain ⟨_, _, _, e, _⟩ := p
  intro q
  rw [q, e] at h
  cases h
theorem Pot.at {M M' : Mp} {a : Addr} {c : Nat} (p : Pot M a c) (h : M' a = M a) : Pot M' a c := by
  obtain ⟨own, mix, cnt, e, r⟩ := p
  exact ⟨own, mix, cnt, by rw [h]; exact e, r⟩
theorem sig_small : ∀ c ∈ SIG.cps.toList, c < 128 := by decide +kernel
theorem ok_small {c : Nat} (h : okSign c = true) : c < 128 := sig_small c (of_decide_eq_true h)
/-- a text of few signs -/
def Fs (n : Nat) (x : Str) : Prop := x.cps.size ≤ n ∧ ∀ c ∈ x.cps.toList, okSign c = true
theorem join_sg {ys : List Str} (h : ∀ y ∈ ys, ∃ c, okSign c = true ∧ y = sg c) : Fs ys.length (Txt.join (Str.ofString "") ys) ∧ (Txt.join (Str.ofString "") ys).cps.size = ys.length ∧ (ys.map (·.length)).sum = ys.length := by
  obtain ⟨ms, rfl⟩ := sgs_of (ys := ys) fun y hy => let ⟨c, _, e⟩ := h y hy; ⟨c, e⟩
  rw [gl_sg, sg_sum, List.length_map]
  refine ⟨⟨by simp, fun c hc => ?_⟩, by simp, rfl⟩
  obtain ⟨c', h1, e⟩ := h (sg c) (List.mem_map.mpr ⟨c, by simpa using hc, rfl⟩)
  rw [sg_inj e]; exact h1
def fairB (v : DL.D) : Bool := gd v && decide (dep v ≤ 5) && decide (wt v ≤ 1000)
theorem fairB_iff {v : DL.D} : fairB v = true ↔ gd v = true ∧ dep v ≤ 5 ∧ wt v ≤ 1000 := by
  unfold fairB
  simp only [Bool.and_eq_true, decide_eq_true_eq, and_assoc]
theorem wtAll_append (xs ys : List DL.D) : wtAll (xs ++ ys) = wtAll xs + wtAll ys := by
  induction xs with
  | nil => simp [wtAll]
  | cons x xs ih => simp only [List.cons_append, wtAll, ih]; omega
theorem wtAll_take (xs : List DL.D) (n : Nat) : wtAll (xs.take n) + wtAll (xs.drop n) = wtAll xs := by
  rw [← wtAll_append, List.take_append_drop]
theorem wtAll_len (xs : List DL.D) : xs.length ≤ wtAll xs := by
  induction xs with
  | nil => simp
  | cons x xs ih => simp only [List.length_cons, wtAll]; omega
theorem wtAll_rev (xs : List DL.D) : wtAll xs.reverse = wtAll xs := by
  induction xs with
  | nil => rfl
  | cons x xs ih => rw [List.reverse_cons, wtAll_append, ih]; simp only [wtAll]; omega
theorem wtAll_cut (xs : List DL.D) (lo hi : Option Int) : wtAll (DL.cutD xs lo hi) ≤ wtAll xs := by
  unfold DL.cutD
  have h1 := wtAll_take xs (HT.sIx xs.length 0 lo)
  have h2 := wtAll_take (xs.drop (HT.sIx xs.length 0 lo)) (HT.sIx xs.length xs.length hi - HT.sIx xs.length 0 lo)
  omega
theorem cut_mem {xs : List DL.D} {lo hi : Option Int} {y : DL.D} (h : y ∈ DL.cutD xs lo hi) : y ∈ xs := by
  unfold DL.cutD at h
  exact List.mem_of_mem_drop (List.mem_of_mem_take h)
theorem wt_mem {xs : List DL.D} {y : DL.D} (h : y ∈ xs) : wt y + 1 ≤ wtAll xs := by
  induction xs with
  | nil => cases h
  | cons x xs ih =>
    simp only [wtAll]
    rcases List.mem_cons.mp h with rfl | h
    · omega
    · have := ih h; omega
/-- a tuple of some items of a fair one -/
theorem some_items {xs ys : List DL.D} (g : gd (.tup xs) = true) (w : wtAll xs ≤ 3000) (m : ∀ y ∈ ys, y ∈ xs) (l : wtAll ys ≤ 2 * wtAll xs) : gd (.tup ys) = true ∧ dep (.tup ys) ≤ dep (.tup xs) + 1 ∧ wt (.tup ys) ≤ 2 * wt (.tup xs) + 10 := by
  refine ⟨gd_tup.mpr ⟨by have := wtAll_len ys; omega, fun y hy => (gd_tup.mp g).2 y (m y hy)⟩, ?_, ?_⟩
  · have : depAll ys ≤ depAll xs := depAll_le.mpr fun y hy => depAll_le.mp (Nat.le_refl _) y (m y hy)
    simp only [dep]
    omega
  · simp only [wt]
    omega
theorem cut_to {α : Type} (xs : List α) (k : Nat) : DL.cutD xs none (some (k : Int)) = xs.take k := by
  unfold DL.cutD
  rw [HT.sIx_none, HT.sIx_nat, List.drop_zero, Nat.sub_zero]
  by_cases h : k ≤ xs.length
  · rw [Nat.min_eq_left h]
  · rw [Nat.min_eq_right (by omega), List.take_length, List.take_of_length_le (by omega)]
theorem cut_from {α : Type} (xs : List α) (k : Nat) : DL.cutD xs (some (k : Int)) none = xs.drop k := by
  unfold DL.cutD
  rw [HT.sIx_none, HT.sIx_nat]
  by_cases h : k ≤ xs.length
  · rw [Nat.min_eq_left h]
    exact List.take_of_length_le (by rw [List.length_drop]; omega)
  · rw [Nat.min_eq_right (by omega), Nat.sub_self, List.take_zero, List.drop_of_length_le (by omega)]
theorem ne_unit {M : Mp} {xs : List DL.D} {Q : DK} (g : gd (.tup xs) = true) (d : dep (.tup xs) ≤ 60) (q : Q (.bl (!xs.isEmpty)) M) : rEqD2 true (.tup xs) (.tup []) M Q := by
  obtain ⟨ps, e, h1, h2, h3⟩ := pyAll_gd xs (gd_tup.mp g).2
  refine ⟨.tuple ps, .tuple [], ?_, rfl, ?_, by decide, ?_⟩
  · show (match pyAll xs with | some ps => some (PyData.tuple ps) | none => none) = _
    rw [e]
  · unfold SeqAt.shaped
    simp only [PyData.canLay0, PyData.depth, h2, h3, Bool.true_and, decide_eq_true_eq]
    simp only [dep] at d
    omega
  · have : PyData.eqv (.tuple ps) (.tuple []) = xs.isEmpty := by
      cases xs with
      | nil => simp [pyAll] at e; subst e; rfl
      | cons x xs =>
        simp only [pyAll] at e
        split at e
        · cases e; rfl
        · cases e
    rw [if_pos rfl, this]
    exact q
theorem up_small {x : Str} (h : ∀ c ∈ x.cps.toList, c < 128) : (Txt.upper x).cps.size = x.cps.size ∧ ∀ c ∈ (Txt.upper x).cps.toList, c < 128 := by
  have e : x = SX.S x.cps.toList := by cases x; rfl
  have h2 : x.cps.toList.all (· < 128) = true := List.all_eq_true.mpr fun c hc => decide_eq_true (h c hc)
  rw [e, SX.upper_S h2]
  refine ⟨by simp [SX.S], fun c hc => ?_⟩
  have hc' : c ∈ x.cps.toList.map PyProof.Rows.up1 := hc
  obtain ⟨d, hd, rfl⟩ := List.mem_map.mp hc'
  have := h d hd
  unfold PyProof.Rows.up1
  split <;> omega
theorem gd_app {x y : Str} (gx : gd (.str x) = true) (gy : gd (.str y) = true) (l : x.cps.size + y.cps.size ≤ 100000) : gd (.str (x ++ y)) = true ∧ (x ++ y).cps.size = x.cps.size + y.cps.size := by
  have e : (x ++ y).cps.size = x.cps.size + y.cps.size := by
    rw [← Array.length_toList, app_list, List.length_append, Array.length_toList, Array.length_toList]
  refine ⟨gd_str.mpr ⟨by omega, fun c hc => ?_⟩, e⟩
  rw [app_list] at hc
  exact (List.mem_append.mp hc).elim ((gd_str.mp gx).2 c) ((gd_str.mp gy).2 c)
theorem gd_cut {x : Str} (gx : gd (.str x) = true) (lo hi : Option Int) : gd (.str (L2.cutS x lo hi)) = true ∧ (L2.cutS x lo hi).cps.size ≤ x.cps.size := by
  have l := L2.cutS_length x lo hi
  have l2 : (L2.cutS x lo hi).cps.size ≤ x.cps.size := l
  refine ⟨gd_str.mpr ⟨Nat.le_trans l2 (gd_str.mp gx).1, fun c hc => (gd_str.mp gx).2 c ?_⟩, l2⟩
  unfold L2.cutS at hc
  exact List.mem_of_mem_drop (List.mem_of_mem_take hc)
theorem add_tups {fz : Bool} {xs ys : List DL.D} {M : Mp} {Q : DK} (l : xs.length + ys.length ≤ 100000) (q : Q (.tup (xs ++ ys)) M) : rAddD fz (.tup xs) (.tup ys) M Q := ⟨small l, q⟩
theorem add_strs {fz : Bool} {x y : Str} {M : Mp} {Q : DK} (l : x.cps.size + y.cps.size ≤ 100000) (q : Q (.str (x ++ y)) M) : rAddD fz (.str x) (.str y) M Q := ⟨small l, q⟩
/-- plain, of a depth, of a weight -/
structure Sm (d w : Nat) (v : DL.D) : Prop where
  g : gd v = true
  d : dep v ≤ d
  w : wt v ≤ w
theorem Sm.up {d w d' w' : Nat} {v : DL.D} (h : Sm d w v) (hd : d ≤ d') (hw : w ≤ w') : Sm d' w' v := ⟨h.g, Nat.le_trans h.d hd, Nat.le_trans h.w hw⟩
theorem sm_all {d : Nat} {xs : List DL.D} (h : ∀ x ∈ xs, ∃ w, Sm d w x) (l : xs.length ≤ 100000) : Sm (d + 1) (wtAll xs) (.tup xs) := by
  refine ⟨gd_tup.mpr ⟨l, fun x hx => let ⟨w, s⟩ := h x hx; s.g⟩, ?_, by simp only [wt]; exact Nat.le_refl _⟩
  have : depAll xs ≤ d := depAll_le.mpr fun x hx => let ⟨w, s⟩ := h x hx; s.d
  simp only [dep]
  omega
theorem sm_lst {d : Nat} {xs : List DL.D} (h : ∀ x ∈ xs, ∃ w, Sm d w x) (l : xs.length ≤ 100000) : Sm (d + 1) (wtAll xs) (.lst xs) := by
  obtain ⟨g, d, w⟩ := sm_all h l
  exact ⟨gd_lst.mpr (gd_tup.mp g), d, w⟩
theorem sm_str {x : Str} {w : Nat} (h : x.cps.size ≤ w) (hw : w ≤ 100000) (c : ∀ c ∈ x.cps.toList, c < 128) : Sm 0 w (.str x) :=
  ⟨gd_str.mpr ⟨by omega, c⟩, by simp [dep], by simp only [wt]; exact h⟩
theorem Fs.gd {n : Nat} {x : Str} (h : Fs n x) (hn : n ≤ 100000) : gd (.str x) = true := gd_str.mpr ⟨by have := h.1; omega, fun c hc => ok_small (h.2 c hc)⟩
/-- many Trues -/
theorem trues : ∀ {xs : List DL.D}, (∀ d ∈ xs, d = .bl true) → ∃ bs : List Bool, some xs = some (bs.map D.bl) ∧ bs.all id = true
  | [], _ => ⟨[], rfl, rfl⟩
  | x :: xs, h => by
    obtain ⟨bs, e1, e2⟩ := trues (xs := xs) fun d hd => h d (List.mem_cons_of_mem _ hd)
    refine ⟨true :: bs, ?_, by simpa using e2⟩
    rw [List.map_cons, ← Option.some.inj e1, h x List.mem_cons_self]
def PW : Int := ((10 : Int) ^ (60 : Int).toNat) ^ (5 : Int).toNat
theorem PW_pos : 0 < PW := by decide +kernel
theorem PW_lt : PW < 2 ^ 1000 := by decide +kernel
theorem bits60 : 0 ≤ (5 : Int) ∧ (Builtin.Int.intBits ((10 : Int) ^ (60 : Int).toNat) : Int) * 5 ≤ 2 ^ 27 := by decide +kernel
end KB

set_option maxHeartbeats 4000000
/-! K27b: is_type and what it calls (turned from K01p, K01b). -/
namespace K27
open PySem PySem.Spec DL KB
open L2 (atI ixN)
open PyProof.Rows hiding St signs
def asc : List Nat → Bool
  | a :: b :: r => decide (a < b) && asc (b :: r)
  | _ => true
theorem asc_pw : ∀ {l : List Nat}, asc l = true → l.Pairwise (· < ·)
  | [], _ => .nil
  | [a], _ => by simp
  | a :: b :: r, h => by
    simp only [asc, Bool.and_eq_true, decide_eq_true_eq] at h
    have ih := asc_pw h.2
    refine List.pairwise_cons.mpr ⟨fun x hx => ?_, ih⟩
    rcases List.mem_cons.mp hx with rfl | hx
    · exact h.1
    · exact Nat.lt_trans h.1 ((List.pairwise_cons.mp ih).1 x hx)
theorem pw_uniq : ∀ {l m : List Nat}, l.Pairwise (· < ·) → m.Pairwise (· < ·) → (∀ k, k ∈ l ↔ k ∈ m) → l = m
  | [], [], _, _, _ => rfl
  | [], y :: m, _, _, h => absurd ((h y).mpr List.mem_cons_self) (by simp)
  | x :: l, [], _, _, h => absurd ((h x).mp List.mem_cons_self) (by simp)
  | x :: l, y :: m, hl, hm, h => by
    obtain ⟨l1, l2⟩ := List.pairwise_cons.mp hl
    obtain ⟨m1, m2⟩ := List.pairwise_cons.mp hm
    have e : x = y := by
      rcases List.mem_cons.mp ((h x).mp List.mem_cons_self) with e | q
      · exact e
      · rcases List.mem_cons.mp ((h y).mpr List.mem_cons_self) with e | p
        · exact e.symm
        · have a := l1 y p
          have b := m1 x q
          omega
    subst e
    have ih := pw_uniq l2 m2 fun k => by
      constructor
      · intro hk
        rcases List.mem_cons.mp ((h k).mp (List.mem_cons_of_mem _ hk)) with e | q
        · have := l1 k hk; omega
        · exact q
      · intro hk
        rcases List.mem_cons.mp ((h k).mpr (List.mem_cons_of_mem _ hk)) with e | q
        · have := m1 k hk; omega
        · exact q
    rw [ih]
theorem lt_sg (a b : Nat) : ltCps (sg a).cps.toList (sg b).cps.toList = decide (a < b) := by
  simp [sg, ltCps]
theorem rising_asc : ∀ (p : Nat) (ms : List Nat), risingS (sg p) (ms.map sg) = true → (p :: ms).Nodup → asc (p :: ms) = true
  | _, [], _, _ => rfl
  | p, x :: r, h, nd => by
    rw [List.map_cons, risingS, Bool.and_eq_true, lt_sg] at h
    obtain ⟨n1, n2⟩ := List.nodup_cons.mp nd
    have ne : p ≠ x := fun e => n1 (by rw [e]; exact List.mem_cons_self)
    have lt : p < x := by
      have := h.1
      simp at this
      omega
    simp only [asc, Bool.and_eq_true, decide_eq_true_eq]
    exact ⟨lt, rising_asc x r h.2 n2⟩
theorem sorted_asc {ms : List Nat} (h : sortedS (ms.map sg) = true) (nd : ms.Nodup) : asc ms = true := by
  cases ms with
  | nil => rfl
  | cons p r => exact rising_asc p r h nd
def sp_tuple : DS1 := fun ds M Q => ∃ v lo hi, ds = [v, .int lo, .int hi] ∧ KB.plain v = true ∧ Q (.bl (tupB v lo hi)) M
theorem rd_tuple : ∀ ds M Q, sp_tuple ds M Q → ds.length = 3 ∧ r_is_tuple { nx := fun _ M' => Q .non M', rt := Q } (dstart N_is_tuple ds) M := by
  rintro _ M Q ⟨v, lo, hi, rfl, pv, q⟩
  refine ⟨rfl, ?_⟩
  cases v
  case tup xs =>
    by_cases h : lo ≤ (xs.length : Int) <;> simp [tupB, h] at q <;> simp [dstart, dRet, dAndV, dOrV, dNotV, dIsi, dSlot, tyD, isiB, dChain, rInt, dCB, DL.rLen, dCons, dNil, seqOf, lstOf, lstIn, mol, dSeq, dIfS, dAsg, dgName, dgTup, dgCons, dgNil, dPar, dC, dB, dNotT, dAndT, dOrT, dOp, rEqD2, DL.rLtD, DL.rInD, DL.rIxD, dCall1, dIf, dTup, dLst, dNext, dDrop, r_is_tuple] <;> simp [h, q]
  all_goals first | (simp [KB.plain] at pv; done) | (simp [tupB] at q; simp [dstart, dRet, dAndV, dOrV, dNotV, dIsi, dSlot, tyD, isiB, dChain, rInt, dCB, DL.rLen, dCons, dNil, seqOf, lstOf, lstIn, mol, dSeq, dIfS, dAsg, dgName, dgTup, dgCons, dgNil, dPar, dC, dB, dNotT, dAndT, dOrT, dOp, rEqD2, DL.rLtD, DL.rInD, DL.rIxD, dCall1, dIf, dTup, dLst, dNext, dDrop, r_is_tuple]; exact q)
/-- is_word(value, words): a flat value, texts -/
def inTx (v : DL.D) (ws : List Str) : Bool := match v with
  | .str x => decide (x ∈ ws)
  | _ => false
def sp_word : DS1 := fun ds M Q => ∃ v ws, ds = [v, .tup (ws.map D.str)] ∧ KB.plain v = true ∧ Q (.bl (inTx v ws)) M
theorem rd_word : ∀ ds M Q, sp_word ds M Q → ds.length = 2 ∧ r_is_word { nx := fun _ M' => Q .non M', rt := Q } (dstart N_is_word ds) M := by
  rintro _ M Q ⟨v, ws, rfl, pv, q⟩
  refine ⟨rfl, ?_⟩
  cases v
  case str x =>
    refine ⟨_, rfl, _, rfl, true, rfl, ?_⟩
    exact ⟨_, rfl, _, rfl, in_texts q⟩
  all_goals first | (simp [KB.plain] at pv; done) | (simp [inTx] at q; simp [dstart, dRet, dAndV, dOrV, dNotV, dIsi, dSlot, tyD, isiB, dChain, rInt, dCB, DL.rLen, dCons, dNil, seqOf, lstOf, lstIn, mol, dSeq, dIfS, dAsg, dgName, dgTup, dgCons, dgNil, dPar, dC, dB, dNotT, dAndT, dOrT, dOp, rEqD2, DL.rLtD, DL.rInD, DL.rIxD, dCall1, dIf, dTup, dLst, dNext, dDrop, r_is_word]; exact q)
def textB (v : DL.D) (most : Int) : Bool := match v with
  | .str x => decide ((x.length : Int) ≤ most) && x.cps.toList.all okSign
  | _ => false
def sp_text : DS1 := fun ds M Q => ∃ v most, ds = [v, .int most] ∧ KB.plain v = true ∧ Q (.bl (textB v most)) M
theorem rd_text : ∀ ds M Q, sp_text ds M Q → ds.length = 2 ∧ r_is_text { nx := fun _ M' => Q .non M', rt := Q } (dstart N_is_text ds) M := by
  rintro _ M Q ⟨v, most, rfl, pv, q⟩
  refine ⟨rfl, ?_⟩
  cases v
  case str x =>
    have sz : x.cps.size ≤ 100000 := by simpa [KB.plain] using pv
    refine ⟨_, rfl, _, rfl, true, rfl, ?_⟩
    refine ⟨_, rfl, small sz, _, rfl, _, _, rfl, rfl, trivial, _, rfl, ?_⟩
    by_cases h : (x.length : Int) ≤ most
    · have e : textB (.str x) most = x.cps.toList.all okSign := by simp [textB, h]
      rw [e] at q
      rw [decide_eq_true h]
      refine ⟨_, rfl, ?_⟩
      refine lc_map (fun d => match d with | .str s => .bl (s.cps.toList.all okSign) | _ => .non) (by exact trivial) _ [] ?_ (by unfold DL.signs; simpa using small sz) ?_
      · intro d hd K1 K2 hk
        obtain ⟨c, hc, rfl⟩ := List.mem_map.mp hd
        refine ⟨_, rfl, c, rfl, ?_⟩
        simpa [okSign] using hk
      · refine ⟨_, x.cps.toList.map okSign, rfl, ?_, ?_⟩
        · show some _ = some _
          unfold DL.signs
          rw [List.nil_append, List.map_map, List.map_map]
          refine congrArg some (List.map_congr_left fun c _ => ?_)
          simp
        · rw [List.all_map]; exact q
    · have e : textB (.str x) most = false := by simp [textB, h]
      rw [e] at q
      rw [decide_eq_false h]
      exact q
  all_goals first | (simp [KB.plain] at pv; done) | (simp [textB] at q; simp [dstart, dRet, dAndV, dOrV, dNotV, dIsi, dSlot, tyD, isiB, dChain, rInt, dCB, DL.rLen, dCons, dNil, seqOf, lstOf, lstIn, mol, dSeq, dIfS, dAsg, dgName, dgTup, dgCons, dgNil, dPar, dC, dB, dNotT, dAndT, dOrT, dOp, rEqD2, DL.rLtD, DL.rInD, DL.rIxD, dCall1, dIf, dTup, dLst, dNext, dDrop, r_is_text]; exact q)

def signB (v : DL.D) : Bool := match v with
  | .str x => textB (.str x) 44 && !decide (x = "") && asc x.cps.toList
  | _ => false
def leafB (t : Str) (v : DL.D) : Bool := if t = "text" then textB v 20 else signB v
theorem asc_zip : ∀ l : List Nat, ((l.map fun c => (⟨#[c]⟩ : Str)).zip (l.tail.map fun c => (⟨#[c]⟩ : Str))).all (fun p => decide (p.1.cps.toList < p.2.cps.toList)) = asc l
  | [] => rfl
  | [_] => rfl
  | a :: b :: r => by
    have ih := asc_zip (b :: r)
    have e : (decide ((#[a] : Array Nat).toList < (#[b] : Array Nat).toList)) = decide (a < b) := by
      simp [List.cons_lt_cons_iff]
    rw [List.map_cons, List.tail_cons, List.map_cons, List.zip_cons_cons, List.all_cons]
    show (decide ((#[a] : Array Nat).toList < (#[b] : Array Nat).toList) && _) = (decide (a < b) && asc (b :: r))
    rw [e, ← ih]
    rfl
def sp_leaf : DS1 := fun ds M Q => ∃ t a r, ds = [.tup (.str t :: a :: r)] ∧ KB.plain a = true ∧ Q (.bl (leafB t a)) M
theorem rd_leaf : ∀ ds M Q, sp_leaf ds M Q → ds.length = 1 ∧ r_is_leaf sp_text { nx := fun _ M' => Q .non M', rt := Q } (dstart N_is_leaf ds) M := by
  rintro _ M Q ⟨t, a, r, rfl, pa, q⟩
  refine ⟨rfl, ?_⟩
  refine ⟨_, rfl, _, _, rfl, ix0, ?_⟩
  refine ⟨decide (t = "text"), rfl, ?_⟩
  by_cases ht : t = "text"
  · rw [decide_eq_true ht]
    refine ⟨_, rfl, _, _, rfl, ix1, a, 20, rfl, pa, ?_⟩
    rw [leafB, if_pos ht] at q
    exact q
  · rw [decide_eq_false ht]
    rw [leafB, if_neg ht] at q
    refine ⟨_, rfl, _, _, rfl, ix1, by decide +kernel, a, 44, rfl, pa, ?_⟩
    cases a
    case str x =>
      refine ⟨textB (.str x) 44, rfl, ?_⟩
      have sz : x.cps.size ≤ 100000 := by simpa [KB.plain] using pa
      cases ht : textB (.str x) 44 with
      | false => simp [signB, ht] at q; exact q
      | true =>
        refine ⟨_, rfl, _, _, rfl, ix1, ?_⟩
        refine ⟨decide (x = ""), rfl, ?_⟩
        by_cases he : x = ""
        · rw [decide_eq_true he]
          simp [signB, he] at q
          exact q
        · rw [decide_eq_false he]
          simp [signB, he, ht] at q
          refine ⟨_, rfl, _, _, rfl, ix1, _, rfl, _, _, rfl, ix1, 1, rfl, small sz, _, _, rfl, rfl, ?_⟩
          have lz : (pairs (DL.signs x) (DL.signs (L2.cutS x (some 1) none))).length ≤ sizeLine := by
            unfold pairs DL.signs
            rw [List.length_map, List.length_zip, List.length_map, Array.length_toList]
            exact Nat.le_trans (Nat.min_le_left _ _) (small sz)
          refine lc_map (fun d => match d with | .tup [.str a, .str b] => .bl (decide (a.cps.toList < b.cps.toList)) | _ => .non) (by exact trivial) _ [] ?_ (by simpa using lz) ?_
          · intro d hd K1 K2 hk
            unfold pairs DL.signs at hd
            obtain ⟨p, hp, rfl⟩ := List.mem_map.mp hd
            obtain ⟨h1, h2⟩ := List.of_mem_zip hp
            obtain ⟨c1, _, e1⟩ := List.mem_map.mp h1
            obtain ⟨c2, _, e2⟩ := List.mem_map.mp h2
            obtain ⟨p1, p2⟩ := p
            subst e1 e2
            exact ⟨_, rfl, rfl, _, _, rfl, _, _, rfl, rfl, _, rfl, _, rfl, hk⟩
          · refine ⟨_, ((x.cps.toList.map fun c => (⟨#[c]⟩ : Str)).zip (x.cps.toList.tail.map fun c => (⟨#[c]⟩ : Str))).map (fun p => decide (p.1.cps.toList < p.2.cps.toList)), rfl, ?_, ?_⟩
            · show some _ = some _
              unfold pairs DL.signs
              rw [cutS1, List.nil_append, List.map_map, List.map_map]
              have z : ∀ l m : List Nat, (l.map fun c => D.str ⟨#[c]⟩).zip (m.map fun c => D.str ⟨#[c]⟩) = ((l.map fun c => (⟨#[c]⟩ : Str)).zip (m.map fun c => (⟨#[c]⟩ : Str))).map fun p => (D.str p.1, D.str p.2) := by
                intro l
                induction l with
                | nil => intro m; rfl
                | cons a l ih =>
                  intro m
                  cases m with
                  | nil => rfl
                  | cons b m => simp [ih m]
              rw [z, List.map_map]
              exact congrArg some (List.map_congr_left fun p _ => rfl)
            · rw [List.all_map, show (id ∘ fun p : Str × Str => decide (p.1.cps.toList < p.2.cps.toList)) = fun p => decide (p.1.cps.toList < p.2.cps.toList) from rfl, asc_zip]
              exact q
    all_goals
      refine ⟨_, rfl, ?_⟩
      simp [signB] at q
      exact q

abbrev LV : List Str := ["text", "sign"]
abbrev PR : List Str := ["cat", "or"]
abbrev WD : List Str := ["text", "sign", "cat", "or", "star"]
def nodeB : DL.D → Bool
  | .tup [.str t, a] => if t ∈ LV then leafB t a else decide (t = "star")
  | .tup [.str t, _, _] => decide (t ∈ PR)
  | _ => false
def sp_node : DS1 := fun ds M Q => ∃ v, ds = [v] ∧ gd v = true ∧ Q (.bl (nodeB v)) M
theorem rd_node : ∀ ds M Q, sp_node ds M Q → ds.length = 1 ∧ r_is_node sp_tuple sp_word sp_leaf { nx := fun _ M' => Q .non M', rt := Q } (dstart N_is_node ds) M := by
  rintro _ M Q ⟨v, rfl, gv, q⟩
  refine ⟨rfl, ?_⟩
  refine ⟨_, rfl, v, 2, 3, rfl, gd_plain gv, _, rfl, ?_⟩
  have no : ∀ w : DL.D, tupB w 2 3 = false → nodeB w = false := by
    intro w h
    unfold nodeB
    split <;> first | rfl | (simp [tupB] at h)
  by_cases ht : tupB v 2 3 = true
  case neg =>
    have ht := Bool.eq_false_iff.mpr ht
    rw [ht]
    rw [no v ht] at q
    exact q
  rw [ht]
  cases v <;> first | (simp [tupB] at ht; done) | skip
  rename_i xs
  obtain ⟨gl, ga⟩ := gd_tup.mp gv
  simp only [tupB, Bool.and_eq_true, decide_eq_true_eq] at ht
  cases xs with
  | nil => simp at ht
  | cons x r =>
    have px := gd_plain (ga x List.mem_cons_self)
    refine ⟨_, rfl, _, _, rfl, ix0, x, WD, rfl, px, _, rfl, ?_⟩
    by_cases hw : inTx x WD = true
    case neg =>
      have hw := Bool.eq_false_iff.mpr hw
      rw [hw]
      have : nodeB (.tup (x :: r)) = false := by
        unfold nodeB
        split
        · rename_i t a e
          cases e
          simp [inTx] at hw
          simp [hw]
        · rename_i t a b e
          cases e
          simp [inTx] at hw
          simp [hw]
        · rfl
      rw [this] at q
      exact q
    rw [hw]
    cases x <;> first | (simp [inTx] at hw; done) | skip
    rename_i t
    have ht2 : t ∈ WD := by simpa [inTx] using hw
    clear hw
    refine ⟨_, rfl, _, rfl, ?_⟩
    refine op_in_texts PR rfl (fun Q' h => ⟨_, rfl, _, _, rfl, ix0, h⟩) ?_
    refine ⟨decide (t ∈ PR), rfl, ?_⟩
    have three : ∀ n : Int, n = (if t ∈ PR then 3 else 2) → (dIf (fun _ M1 Q => Q (decide (t ∈ PR)) M1) (dC v_TRIPLE) (dC v_PAIR)) [] M (fun y M2 => y = .int n) := by
      intro n hn
      show (if decide (t ∈ PR) = true then _ else _)
      by_cases h : t ∈ PR <;> simp [h] at hn ⊢ <;> subst hn <;> rfl
    have leaf : ∀ a, r = [a] → t ∈ LV → Q (.bl (leafB t a)) M := by
      rintro a rfl hl
      simpa [nodeB, hl] using q
    rcases r with _ | ⟨a, _ | ⟨b, _ | ⟨c, r⟩⟩⟩
    · simp at ht
    · by_cases hp : t ∈ PR
      · rw [decide_eq_true hp]
        have : nodeB (.tup [.str t, a]) = false := by
          have h2 : t ∉ LV := by
            simp at hp ⊢
            rcases hp with rfl | rfl <;> decide
          have h3 : t ≠ "star" := by
            simp at hp
            rcases hp with rfl | rfl <;> decide
          simp [nodeB, h2, h3]
        rw [this] at q
        exact ⟨true, rfl, q⟩
      · rw [decide_eq_false hp]
        refine ⟨false, rfl, ?_⟩
        show dOp (DL.rInD true) (dOp DL.rIxD (dSlot 0) (dC (.int 0))) (dC v_LEAVES) (dstart N_is_node _) M _
        refine op_in_texts LV rfl (fun Q' h => ⟨_, rfl, _, _, rfl, ix0, h⟩) ?_
        by_cases hl : t ∈ LV
        · simp only [hl, decide_true, Bool.not_true, if_true]
          exact ⟨false, rfl, _, rfl, t, a, [], rfl, gd_plain (ga a (by simp)), leaf a rfl hl⟩
        · simp only [hl, decide_false, Bool.not_false, if_true]
          have h3 : t = "star" := by
            simp at ht2 hp hl
            rcases ht2 with h | h | h | h | h <;> first | exact h | (simp [h] at hl; done) | (simp [h] at hp; done)
          have e : nodeB (.tup [.str t, a]) = true := by
            rw [nodeB, if_neg hl]
            exact decide_eq_true h3
          rw [e] at q
          exact ⟨true, rfl, q⟩
    · by_cases hp : t ∈ PR
      · rw [decide_eq_true hp]
        refine ⟨false, rfl, ?_⟩
        show dOp (DL.rInD true) (dOp DL.rIxD (dSlot 0) (dC (.int 0))) (dC v_LEAVES) (dstart N_is_node _) M _
        refine op_in_texts LV rfl (fun Q' h => ⟨_, rfl, _, _, rfl, ix0, h⟩) ?_
        have h2 : t ∉ LV := by
          simp at hp ⊢
          rcases hp with rfl | rfl <;> decide
        simp only [h2, decide_false, Bool.not_false, if_true]
        refine ⟨true, rfl, ?_⟩
        simpa [nodeB, hp] using q
      · rw [decide_eq_false hp]
        simp only [nodeB, hp, decide_false] at q
        exact ⟨true, rfl, q⟩
    · simp at ht
      omega
def partsB : DL.D → List DL.D
  | .tup (.str t :: r) => if t ∈ LV then [] else r
  | _ => []
def sp_parts : DS1 := fun ds M Q => ∃ t r, ds = [.tup (.str t :: r)] ∧ r.length ≤ 100000 ∧ Q (.tup (partsB (.tup (.str t :: r)))) M
theorem rd_parts : ∀ ds M Q, sp_parts ds M Q → ds.length = 1 ∧ r_parts_of { nx := fun _ M' => Q .non M', rt := Q } (dstart N_parts_of ds) M := by
  rintro _ M Q ⟨t, r, rfl, hz, q⟩
  refine ⟨rfl, ?_⟩
  refine op_in_texts LV rfl (fun Q' h => ⟨_, rfl, _, _, rfl, ix0, h⟩) ?_
  refine ⟨decide (t ∈ LV), rfl, ?_⟩
  by_cases h : t ∈ LV
  · simp only [h, decide_true, if_true]
    refine ⟨Nat.zero_le _, ?_⟩
    simpa [partsB, h] using q
  · simp only [h, decide_false, Bool.false_eq_true, if_false]
    refine ⟨_, rfl, 1, rfl, ?_⟩
    show Q (.tup (DL.cutD (D.str t :: r) (some 1) none)) M
    rw [cut1]
    simpa [partsB, h] using q

/-- the nodes, as the law counts them: to a depth -/
def countT : Nat → DL.D → Nat
  | 0, _ => 1000
  | n + 1, v => if nodeB v = true then 1 + ((partsB v).map (countT n)).sum else 1000
theorem countT_pos : ∀ (n : Nat) (v : DL.D), 1 ≤ countT n v
  | 0, _ => by simp [countT]
  | n + 1, v => by
    unfold countT
    split <;> omega
def pr (p : DL.D × Nat) : DL.D := .tup [p.1, .int p.2]
def need (st : List (DL.D × Nat)) : Nat := (st.map fun p => countT (31 - p.2) p.1).sum
theorem node_shape {v : DL.D} (h : nodeB v = true) : ∃ t r, v = .tup (.str t :: r) ∧ r.length ≤ 2 ∧ 1 ≤ r.length := by
  unfold nodeB at h
  split at h
  · exact ⟨_, _, rfl, by simp, by simp⟩
  · exact ⟨_, _, rfl, by simp, by simp⟩
  · cases h
theorem parts_mem {v x : DL.D} (h : x ∈ partsB v) : ∃ t r, v = .tup (.str t :: r) ∧ x ∈ r := by
  unfold partsB at h
  split at h
  · split at h
    · simp at h
    · exact ⟨_, _, rfl, h⟩
  · simp at h
theorem parts_gd {v x : DL.D} (gv : gd v = true) (h : x ∈ partsB v) : gd x = true ∧ dep x + 1 ≤ dep v := by
  obtain ⟨t, r, rfl, hx⟩ := parts_mem h
  refine ⟨(gd_tup.mp gv).2 x (List.mem_cons_of_mem _ hx), ?_⟩
  have := (depAll_le (n := depAll (.str t :: r))).mp (Nat.le_refl _) x (List.mem_cons_of_mem _ hx)
  simp only [dep]
  omega
def sp_type1 : DS1 := fun ds M Q => ∃ v, ds = [v] ∧ gd v = true ∧ dep v ≤ 62 ∧ ∀ M', SubM M M' → Q (.bl (decide (countT 30 v ≤ 120))) M'
def StOk (st : List (DL.D × Nat)) (k : Nat) : Prop := (∀ p ∈ st, gd p.1 = true ∧ dep p.1 ≤ 62 ∧ p.2 ≤ 31) ∧ st.length ≤ k + 1
theorem sum_append (l m : List Nat) : (l ++ m).sum = l.sum + m.sum := by simp
theorem rd_type : ∀ ds M Q, sp_type1 ds M Q → ds.length = 1 ∧ r_is_type sp_node sp_parts { nx := fun _ M' => Q .non M', rt := Q } (dstart N_is_type ds) M := by
  rintro _ M Q ⟨v, rfl, gv, dv, q⟩
  refine ⟨rfl, ?_⟩
  refine ⟨v, rfl, small (by simp), small (by simp), ?_⟩
  intro a ha
  refine ⟨_, _, rfl, ?_⟩
  refine ⟨fun m ρ M' => ∃ st k x3 x4 x5, ρ = [some v, some (.ref a), some (.int (k : Nat)), x3, x4, x5] ∧ M' = mu M a (.lst (st.map pr)) ∧ k ≤ 120 ∧ m = 121 - k ∧ StOk st k ∧ (countT 30 v ≤ 120 ↔ k + need st ≤ 120),
    ⟨121, [(v, 1)], 0, none, none, none, rfl, rfl, by omega, rfl, ⟨fun p hp => by simp at hp; subst hp; exact ⟨gv, dv, by omega⟩, by simp⟩, by simp [need]⟩, ?_⟩
  rintro m ρ M' ⟨st, k, x3, x4, x5, rfl, rfl, hk, rfl, ⟨ok, len⟩, iff⟩
  have sub : ∀ o, SubM M (mu M a o) := fun o => (SubM.refl M).mu ha o
  refine ⟨.ref a, rfl, Nat.zero_le _, ?_⟩
  refine newTr (ne_nil mu_same ?_ ?_ ?_)
  · intro x hx
    obtain ⟨p, hp, rfl⟩ := List.mem_map.mp hx
    obtain ⟨h1, _, h3⟩ := ok p hp
    refine gd_tup.mpr ⟨by simp, fun y hy => ?_⟩
    simp at hy
    rcases hy with rfl | rfl
    · exact h1
    · have : p.2.log2 ≤ p.2 := Nat.log2_le_self _
      simp [gd]
      omega
  · refine depAll_le.mpr fun x hx => ?_
    obtain ⟨p, hp, rfl⟩ := List.mem_map.mp hx
    have := (ok p hp).2.1
    simp [pr, dep, depAll]
    omega
  refine ⟨_, rfl, ?_⟩
  rcases List.eq_nil_or_concat st with rfl | ⟨st', ⟨node, deep⟩, e0⟩
  · -- nothing waits
    have e : countT 30 v ≤ 120 := by rw [iff]; simp [need]; exact hk
    have q1 := q _ (sub (.lst ([].map pr)))
    rw [decide_eq_true e] at q1
    exact q1
  · rw [List.concat_eq_append] at e0
    subst e0
    have hne : ((st' ++ [(node, deep)]).map pr).isEmpty = false := by simp
    rw [hne]
    obtain ⟨gn, dn, hd⟩ := ok (node, deep) (by simp)
    dsimp only at gn dn hd
    have need1 : need (st' ++ [(node, deep)]) = need st' + countT (31 - deep) node := by unfold need; rw [List.map_append, sum_append]; simp
    have cp := countT_pos (31 - deep) node
    refine ⟨fun ρ' M' => ∃ m', m' < 121 - k ∧ ∃ st k x3 x4 x5, ρ' = [some v, some (.ref a), some (.int (k : Nat)), x3, x4, x5] ∧ M' = mu M a (.lst (st.map pr)) ∧ k ≤ 120 ∧ m' = 121 - k ∧ StOk st k ∧ (countT 30 v ≤ 120 ↔ k + need st ≤ 120), fun ρ' M' h => h, ?_⟩
    have e1 : (st' ++ [(node, deep)]).map pr = st'.map pr ++ [pr (node, deep)] := by simp
    rw [e1]
    refine ⟨.ref a, rfl, by show (mol (mu M a _ a)).isSome = true; rw [mu_same]; rfl, a, _, pr (node, deep), rfl, rfl, mu_same, by simp, ?_⟩
    rw [List.dropLast_concat, mu_mu]
    refine ⟨_, rfl, rfl, _, _, rfl, _, _, rfl, rfl, ?_⟩
    refine ⟨_, rfl, ?_⟩
    -- nodes, deep, is_node
    have out : ¬ (countT 30 v ≤ 120) → ∀ o, Q (.bl false) (mu M a o) := fun h o => by
      have q1 := q _ (sub o)
      rw [decide_eq_false h] at q1
      exact q1
    refine ⟨_, rfl, _, _, rfl, rfl, trivial, _, rfl, ?_⟩
    by_cases h1 : (120 : Int) < (k : Int) + 1
    · rw [decide_eq_true h1]
      exact out (by omega) _
    rw [decide_eq_false h1]
    refine ⟨_, rfl, _, _, rfl, rfl, trivial, _, rfl, ?_⟩
    by_cases h2 : (30 : Int) < (deep : Int)
    · rw [decide_eq_true h2]
      have : countT (31 - deep) node = 1000 := by rw [show 31 - deep = 0 by omega]; rfl
      exact out (by omega) _
    rw [decide_eq_false h2]
    refine ⟨_, rfl, node, rfl, gn, _, rfl, ?_⟩
    obtain ⟨n, hn⟩ : ∃ n, 31 - deep = n + 1 := ⟨30 - deep, by omega⟩
    cases hb : nodeB node with
    | false =>
      have : countT (31 - deep) node = 1000 := by rw [hn]; unfold countT; rw [if_neg (by rw [hb]; decide)]
      exact out (by omega) _
    | true =>
      obtain ⟨t, r, rfl, r2, _⟩ := node_shape hb
      have cnt : countT (31 - deep) (.tup (.str t :: r)) = 1 + ((partsB (.tup (.str t :: r))).map (countT n)).sum := by
        rw [hn]
        show (if nodeB _ = true then _ else _) = _
        rw [if_pos hb]
      have pl : (partsB (.tup (.str t :: r))).length ≤ 2 := by
        show (if t ∈ LV then [] else r).length ≤ 2
        split
        · simp
        · exact r2
      refine ⟨.ref a, rfl, by show (mol (mu M a _ a)).isSome = true; rw [mu_same]; rfl, ?_⟩
      refine ⟨_, rfl, t, r, rfl, by omega, ?_⟩
      refine lc_map (fun d => .tup [d, .int ((deep : Int) + 1)]) trivial _ [] ?_ (small (by simp; omega)) ?_
      · intro x hx K1 K2 hk
        exact ⟨_, rfl, _, rfl, small (by simp), hk⟩
      · refine ⟨a, _, _, _, rfl, rfl, mu_same, rfl, ?_, ?_⟩
        · simp at len ⊢
          exact small (by omega)
        · rw [mu_mu]
          refine ⟨_, ?_, st' ++ (partsB (.tup (.str t :: r))).map fun x => (x, deep + 1), k + 1, _, _, _, rfl, ?_, by omega, rfl, ⟨?_, ?_⟩, ?_⟩
          · omega
          · refine congrArg (fun l => mu M a (.lst l)) ?_
            rw [List.map_append, List.map_map, List.nil_append]
            rfl
          · intro p hp
            rcases List.mem_append.mp hp with z | z
            · exact ok p (by simp [z])
            · obtain ⟨x, hx, rfl⟩ := List.mem_map.mp z
              obtain ⟨g1, g2⟩ := parts_gd gn hx
              dsimp only
              exact ⟨g1, by omega, by omega⟩
          · simp at len ⊢
            omega
          · rw [iff, need1, cnt]
            have : need (st' ++ (partsB (.tup (.str t :: r))).map fun x => (x, deep + 1)) = need st' + ((partsB (.tup (.str t :: r))).map (countT n)).sum := by
              unfold need
              rw [List.map_append, sum_append, List.map_map]
              have : (fun p : DL.D × Nat => countT (31 - p.2) p.1) ∘ (fun x => (x, deep + 1)) = countT n := by
                funext x
                show countT (31 - (deep + 1)) x = _
                rw [show 31 - (deep + 1) = n by omega]
              rw [this]
            rw [this]
            omega
def sp_type : DS1 := fun ds M Q => ∃ v, ds = [v] ∧ gd v = true ∧ dep v ≤ 62 ∧ Q (.bl (decide (countT 30 v ≤ 120))) M
theorem wk_type : ∀ ds M Q, sp_type ds M Q → sp_type1 ds M fun d M1 => ∃ M2, SubM M2 M1 ∧ Q d M2 := by
  rintro _ M Q ⟨v, rfl, g, d, q⟩
  exact ⟨v, rfl, g, d, fun M' s => ⟨M, s, q⟩⟩
end K27

set_option maxHeartbeats 4000000
/-! K27c: the draws (turned from K83b, c). -/
namespace K27
open PySem PySem.Spec DL KB
open L2 (atI ixN)
open PyProof.Rows hiding St signs
def sp_take : DS1 := fun ds M Q => ∃ a u c, ds = [.ref a, .int u] ∧ Pot M a c ∧ c ≤ 100000 ∧ 0 < u ∧ u < 1000000 ∧ ∀ d M', 0 ≤ d → d < u → Dr M a M' (c + 1) → Q (.int d) M'
theorem rd_take : ∀ ds M Q, sp_take ds M Q → ds.length = 2 ∧ r__law_take { nx := fun _ M' => Q .non M', rt := Q } (dstart N__law_take ds) M := by
  rintro _ M Q ⟨a, u, c, rfl, ⟨own, mix, cnt, e, h1, h2, h3, h4, h5⟩, hc, hu, hu2, q⟩
  refine ⟨rfl, ?_⟩
  unfold r__law_take
  have hix : ∀ {M : Mp} {a : Addr} {xs : List DL.D} {i : Int} {d : DL.D} {Q : DK}, M a = some (.lst xs) → atI xs i = some d → Q d M → DL.rIxD (.ref a) (.int i) M Q := ix_ref
  have hil : ∀ {M : Mp} {xs : List DL.D} {i : Int} {d : DL.D} {Q : DK}, atI xs i = some d → Q d M → DL.rIxD (.lst xs) (.int i) M Q := fun h q => ⟨_, _, rfl, h, q⟩
  have hmul : ∀ {i j : Int} {M : Mp} {Q : DK}, i.natAbs < 2 ^ 64 → j.natAbs < 2 ^ 64 → Q (.int (i * j)) M → rMulD true (.int i) (.int j) M Q := mul_ok
  have hadd : ∀ {i j : Int} {M : Mp} {Q : DK}, Q (.int (i + j)) M → rAddD true (.int i) (.int j) M Q := fun q => q
  have hint : ∀ {i : Int} {M : Mp} {Q : DK}, Q (.int i) M → rIntD [.int i] M Q := fun q => q
  have hs0 : ∀ {x y z v : DL.D} {M : Mp} {a : Addr}, M a = some (.lst [x, y, z]) → ∀ {Q : Mp → Prop}, Q (mu M a (.lst [v, y, z])) → rSetD (.ref a) (.int 0) v M Q := set0
  have hs2 : ∀ {x y z v : DL.D} {M : Mp} {a : Addr}, M a = some (.lst [x, y, z]) → ∀ {Q : Mp → Prop}, Q (mu M a (.lst [x, y, v])) → rSetD (.ref a) (.int 2) v M Q := set2
  generalize DL.rIxD = R at hix hil ⊢
  generalize rMulD true = Rm at hmul ⊢
  generalize rAddD true = Ra at hadd ⊢
  generalize rIntD = Ri at hint ⊢
  generalize rSetD = Rs at hs0 hs2 ⊢
  refine ⟨_, rfl, hix e at3_0 ⟨_, _, rfl, rfl, trivial, _, rfl, ?_⟩⟩
  by_cases ho : 0 < own
  · rw [decide_eq_true ho]
    refine ⟨_, rfl, hix e at3_0 (hint ⟨_, rfl, _, _, rfl, rfl, hu, ?_⟩)⟩
    refine ⟨_, rfl, hix e at3_0 ⟨_, rfl, _, _, rfl, rfl, ⟨hu, by omega⟩, ?_⟩⟩
    refine ⟨_, rfl, hs0 e ⟨_, rfl, ?_⟩⟩
    refine q _ _ (Int.emod_nonneg _ (by omega)) (Int.emod_lt_of_pos _ hu) ⟨⟨_, mix, cnt, mu_same, Int.ediv_nonneg h1 (by omega), h2, h3, h4, by omega⟩, fun b hb => mu_ne hb⟩
  · rw [decide_eq_false ho]
    refine ⟨_, rfl, hix e at3_2 (hadd ⟨_, rfl, hs2 e ?_⟩)⟩
    have e2 : mu M a (.lst [.int own, .int mix, .int (cnt + 1)]) a = some (.lst [.int own, .int mix, .int (cnt + 1)]) := mu_same
    refine ⟨small (by simp), ?_⟩
    refine ⟨_, rfl, hix e2 at3_2 (hint ⟨_, _, rfl, rfl, (by decide : (0 : Int) < 5), ?_⟩)⟩
    obtain ⟨p, hp, p0, p1⟩ := primes (m := (cnt + 1) % 5) (Int.emod_nonneg _ (by decide)) (Int.emod_lt_of_pos _ (by decide))
    refine hil hp ?_
    have sq : (cnt + 1) * (cnt + 1) ≤ 100001 * 100001 := Int.mul_le_mul (by omega) (by omega) (by omega) (by decide)
    have sq0 : 0 ≤ (cnt + 1) * (cnt + 1) := Int.mul_nonneg (by omega) (by omega)
    have as1 : 88792 * (cnt + 1) * (cnt + 1) = 88792 * ((cnt + 1) * (cnt + 1)) := Int.mul_assoc _ _ _
    refine ⟨_, rfl, hix e2 at3_1 ⟨_, rfl, hix e2 at3_2 (hmul (by decide) (by omega) ⟨_, rfl, hix e2 at3_2 (hmul (by omega) (by omega) (hadd (hadd (hint ?_))))⟩)⟩⟩
    refine ⟨_, _, rfl, rfl, .inl ⟨by decide, by decide, ?_⟩, hint ?_⟩
    · rw [as1]
      omega
    refine ⟨_, rfl, _, _, rfl, rfl, p0, ?_⟩
    have b0 := Int.emod_nonneg ((mix + 88792 * (cnt + 1) * (cnt + 1) + 638) ^ (3 : Int).toNat) (b := p) (by omega)
    have b1 := Int.emod_lt_of_pos ((mix + 88792 * (cnt + 1) * (cnt + 1) + 638) ^ (3 : Int).toNat) p0
    refine ⟨_, rfl, _, rfl, hint ⟨_, _, rfl, rfl, (by decide : (0 : Int) < 10259), ?_⟩⟩
    refine ⟨_, rfl, hix e2 at3_2 (hmul (by decide) (by omega) (hadd (hmul (by omega) ?_ (hint ⟨_, _, rfl, rfl, (by decide : (0 : Int) < 2305843009213693907), ?_⟩))))⟩
    · omega
    · refine ⟨_, rfl, _, _, rfl, rfl, ⟨(by decide : (0 : Int) < 152), (by decide : (152 : Int).natAbs < 2 ^ 64)⟩, hint ⟨_, rfl, _, _, rfl, rfl, hu, ?_⟩⟩
      refine q _ _ (Int.emod_nonneg _ (by omega)) (Int.emod_lt_of_pos _ hu) ⟨⟨own, mix, cnt + 1, mu_same, h1, h2, h3, by omega, by omega⟩, fun b hb => mu_ne hb⟩
def sp_of : DS1 := fun ds M Q => ∃ a o c, ds = [.ref a, o] ∧ Pot M a c ∧ c ≤ 100000 ∧
  ((∃ xs, o = .lst xs ∧ 0 < xs.length ∧ xs.length < 1000000 ∧ ∀ d ∈ xs, ∀ M', Dr M a M' (c + 1) → Q d M') ∨
   ∃ x : Str, o = .str x ∧ 0 < x.cps.size ∧ x.cps.size ≤ 100000 ∧ ∀ ch ∈ x.cps.toList, ∀ M', Dr M a M' (c + 1) → Q (.str (sg ch)) M')
theorem rd_of : ∀ ds M Q, sp_of ds M Q → ds.length = 2 ∧ r__law_of sp_take { nx := fun _ M' => Q .non M', rt := Q } (dstart N__law_of ds) M := by
  rintro _ M Q ⟨a, o, c, rfl, p, hc, h⟩
  refine ⟨rfl, ?_⟩
  rcases h with ⟨xs, rfl, l0, l1, q⟩ | ⟨x, rfl, l0, l1, q⟩
  · refine ⟨_, rfl, _, rfl, _, rfl, xs, rfl, a, _, c, rfl, p, hc, by omega, by omega, fun d M' h0 h1 dr => ?_⟩
    obtain ⟨y, hy, e⟩ := at_in h0 h1
    exact ⟨xs, y, rfl, e, q y hy M' dr⟩
  · have sz : x.length = x.cps.size := rfl
    refine ⟨_, rfl, _, rfl, _, rfl, small l1, a, _, c, rfl, p, hc, by omega, by omega, fun d M' h0 h1 dr => ?_⟩
    obtain ⟨y, hy, e⟩ := at_in (xs := x.cps.toList) h0 (by rw [Array.length_toList]; omega)
    exact ⟨small l1, y, e, q y hy M' dr⟩
def oddL : List DL.D := [.non, .bl true, .bl false, .int 0, .int 1, .int (-1), .int 2, .int 44, .str "", .str "a", .str "A", .str "text", .str "copy", .tup [], .lst [], .tup [.int 0], .tup [.tup []], .lst [.int 0], .tup [.str "a"],
  .tup [.str "text", .str "a"], .tup [.str "copy", .tup [.str "text", .str "a"]], .tup [.non], .lst [.str "a"], .str (repS "a" 401), .str "/", .tup [.str "none"]]
theorem odd_fair : ∀ d ∈ oddL, fairB d = true := by decide +kernel
def sp_odd : DS1 := fun ds M Q => ∃ (a : Addr) (c : Nat), ds = [.ref a] ∧ Pot M a c ∧ c + 1 ≤ 100000 ∧ ∀ v M2, gd v = true → dep v ≤ 5 → wt v ≤ 1000 → Dr M a M2 (c + 1) → Q v M2
theorem rd_odd : ∀ ds M Q, sp_odd ds M Q → ds.length = 1 ∧ r__law_odd sp_of { nx := fun _ M' => Q .non M', rt := Q } (dstart N__law_odd ds) M := by
  rintro _ M Q ⟨a, c, rfl, p, hc, q⟩
  refine ⟨rfl, ?_⟩
  refine ⟨1, rfl, small (by simp), small (by simp), newTr ⟨small (by simp), small (by simp), small (by simp), small (by simp), newTr ⟨small (by simp), small (by simp), newTr ?_⟩⟩⟩
  refine ⟨_, rfl, small (by simp), small (by simp), small (by simp), small (by simp), small (by simp), newTr ⟨by decide, by decide, by decide, small (by simp), small (by simp), newTr ?_⟩⟩
  refine ⟨_, _, rfl, rfl, small (by simp), newTr ?_⟩
  refine ⟨_, rfl, _, rfl, a, _, c, rfl, p, by omega, .inl ⟨_, rfl, by simp, by simp, fun d hd M' dr => ?_⟩⟩
  obtain ⟨h1, h2, h3⟩ := fairB_iff.mp (odd_fair d hd)
  exact q d M' h1 h2 h3 dr

def sp_places : DS1 := fun ds M Q => ∃ ns : List Int, ds = [.slst (ns.map D.int), .int 4] ∧ ns.length ≤ 100000 ∧ ∀ n : Nat, n ≤ 4 → Q (.lst (rgD 0 n)) M
theorem rd_places : ∀ ds M Q, sp_places ds M Q → ds.length = 2 ∧ r__law_places { nx := fun _ M' => Q .non M', rt := Q } (dstart N__law_places ds) M := by
  rintro _ M Q ⟨ns, rfl, ln, q⟩
  refine ⟨rfl, ?_⟩
  refine ⟨_, rfl, _, rfl, _, rfl, _, _, rfl, _, _, rfl, _, rfl, ?_, ?_, newTr (q _ ?_)⟩
  all_goals
    rw [List.length_map]
    split <;> split <;> omega
def sp_pot : DS1 := fun ds M Q => ∃ (ns : List Int) (k : Nat), ds = [.slst (ns.map D.int), .int (k : Nat)] ∧ ns.length ≤ 100000 ∧ k ≤ 10 ∧ ∀ a M', M a = none → Pot M' a 0 → Q (.ref a) M'
theorem pot_cell {ns : List Int} {k : Nat} (ln : ns.length ≤ 100000) (hk : k ≤ 10) {M : Mp} (Q : DK) (q : ∀ cell : Int, Q (.int cell) M) :
    dIf (dB (dOp DL.rLtD (dSlot 1) (dCB DL.rLen (dCons (dSlot 0) dNil)))) (dOp DL.rIxD (dSlot 0) (dSlot 1)) (dOp (rAddD true) (dOp (rAddD true) (dOp (rInt (fun _ j => 0 < j) fun i j => .int (i % j)) (dCB rSumD (dCons (dSl true (dSlot 0) dNoPart (dPart (dC (.int 1)))) dNil)) (dC (.int 1000003))) (dOp (rMulD true) (dC (.int 4021)) (dSlot 1))) (dC (.int 431)))
      [some (.slst (ns.map D.int)), some (.int (k : Nat)), none, none, none] M Q := by
  refine ⟨_, rfl, _, rfl, _, rfl, decide ((k : Int) < ((ns.map D.int).length : Int)), rfl, ?_⟩
  by_cases h : (k : Int) < ((ns.map D.int).length : Int)
  · rw [decide_eq_true h]
    obtain ⟨y, hy, e⟩ := at_in (xs := ns.map D.int) (d := (k : Int)) (by omega) h
    obtain ⟨cell, _, rfl⟩ := List.mem_map.mp hy
    exact ⟨_, rfl, _, rfl, _, _, rfl, e, q cell⟩
  · rw [decide_eq_false h]
    refine ⟨_, rfl, 1, rfl, _, rfl, newTr ⟨_, ns.take 1, rfl, ?_, _, _, rfl, rfl, (by decide : (0 : Int) < 1000003), _, rfl, mul_ok (by decide) (by omega) (q _)⟩⟩
    show some (DL.cutD (ns.map D.int) none (some ((1 : Nat) : Int))) = _
    rw [cut_to, List.map_take]

theorem rd_pot : ∀ ds M Q, sp_pot ds M Q → ds.length = 2 ∧ r__law_pot { nx := fun _ M' => Q .non M', rt := Q } (dstart N__law_pot ds) M := by
  rintro _ M Q ⟨ns, k, rfl, ln, hk, q⟩
  refine ⟨rfl, ?_⟩
  refine pot_cell ln hk _ fun cell => ?_
  have hmul : ∀ {i j : Int} {M : Mp} {Q : DK}, i.natAbs < 2 ^ 64 → j.natAbs < 2 ^ 64 → Q (.int (i * j)) M → rMulD true (.int i) (.int j) M Q := mul_ok
  have hmulW : ∀ {i j : Int} {M : Mp} {Q : DK}, i.natAbs < 2 ^ 1000 → j.natAbs < 2 ^ 64 → Q (.int (i * j)) M → rMulD true (.int i) (.int j) M Q := fun h1 h2 q => ⟨⟨1000, 64, h1, h2, by decide⟩, q⟩
  have hadd : ∀ {i j : Int} {M : Mp} {Q : DK}, Q (.int (i + j)) M → rAddD true (.int i) (.int j) M Q := fun q => q
  have hint : ∀ {i : Int} {M : Mp} {Q : DK}, Q (.int i) M → rIntD [.int i] M Q := fun q => q
  have hbl : ∀ {b : Bool} {M : Mp} {Q : DK}, Q (.int (if b = true then 1 else 0)) M → rIntD [.bl b] M Q := fun q => q
  have habs : ∀ {i : Int} {M : Mp} {Q : DK}, Q (.int (if i < 0 then -i else i)) M → rAbsD [.int i] M Q := fun q => ⟨_, rfl, q⟩
  have hp1 : ∀ {M : Mp} {Q : DK}, Q (.int ((10 : Int) ^ (60 : Int).toNat)) M → rPowD (.int 10) (.int 60) M Q := fun q => ⟨_, _, rfl, rfl, .inl ⟨by decide, by decide, by decide⟩, q⟩
  have hp2 : ∀ {M : Mp} {Q : DK}, Q (.int PW) M → rPowD (.int ((10 : Int) ^ (60 : Int).toNat)) (.int 5) M Q := fun q => ⟨_, _, rfl, rfl, .inr bits60, q⟩
  have hp3 : ∀ {M : Mp} {Q : DK}, Q (.int ((10 : Int) ^ (18 : Int).toNat)) M → rPowD (.int 10) (.int 18) M Q := fun q => ⟨_, _, rfl, rfl, .inl ⟨by decide, by decide, by decide⟩, q⟩
  have own : ∀ b : Bool, 0 ≤ ((if cell < 0 then -cell else cell) % PW) * (if b = true then 1 else 0) := fun b => by
    refine Int.mul_nonneg (Int.emod_nonneg _ (by have := PW_pos; omega)) ?_
    cases b <;> decide
  have own2 : ((if cell < 0 then -cell else cell) % PW).natAbs < 2 ^ 1000 := by
    have h0 := Int.emod_nonneg (if cell < 0 then -cell else cell) (b := PW) (by have := PW_pos; omega)
    have h1 := Int.emod_lt_of_pos (if cell < 0 then -cell else cell) PW_pos
    have h2 := PW_lt
    generalize (if cell < 0 then -cell else cell) % PW = z at h0 h1
    have h3 : z < 2 ^ 1000 := Int.lt_trans h1 h2
    have h4 : ((z.natAbs : Nat) : Int) = z := Int.natAbs_of_nonneg h0
    have h5 : ((z.natAbs : Nat) : Int) < ((2 ^ 1000 : Nat) : Int) := by rw [h4]; exact h3
    exact Int.ofNat_lt.mp h5
  have one : ∀ b : Bool, (if b = true then (1 : Int) else 0).natAbs < 2 ^ 64 := fun b => by cases b <;> decide
  have PWp := PW_pos
  generalize PW = W at hp2 own own2 PWp
  generalize rMulD true = Rm at hmul hmulW ⊢
  generalize rAddD true = Ra at hadd ⊢
  generalize rIntD = Ri at hint hbl ⊢
  generalize rAbsD = Rb at habs ⊢
  generalize rPowD = Rp at hp1 hp2 hp3 ⊢
  refine ⟨_, rfl, habs (hint (hp1 (hp2 ⟨_, _, rfl, rfl, PWp, _, rfl, habs (hp3 ⟨_, _, rfl, rfl, trivial, hbl (hmulW own2 (one _) ?_)⟩)⟩)))⟩
  refine ⟨_, rfl, hint ⟨_, _, rfl, rfl, (by decide : (0 : Int) < 2305843009213693951), ?_⟩⟩
  have s0 := Int.emod_nonneg cell (b := 2305843009213693951) (by decide)
  have s1 := Int.emod_lt_of_pos cell (b := 2305843009213693951) (by decide)
  refine ⟨_, rfl, _, rfl, hmul (by omega) (by decide) ⟨_, rfl, hmul (by decide) (by omega) ⟨_, rfl, hmul (by omega) (by omega) (hadd (hadd (hint ⟨_, _, rfl, rfl, (by decide : (0 : Int) < 2305843009213693921), small (by simp), ?_⟩)))⟩⟩⟩
  intro a ha
  refine q a _ ha ⟨_, _, 0, mu_same, own _, Int.emod_nonneg _ (by decide), ?_, by decide, by decide⟩
  have := Int.emod_lt_of_pos (cell % 2305843009213693951 * 91639 + 8423 * (k : Int) * (k : Int) + 838) (b := 2305843009213693921) (by decide)
  omega
mutual
def tree : DL.D → Bool
  | .str _ => true
  | .int i => decide (i.natAbs ≤ 1000)
  | .tup xs => treeAll xs
  | _ => false
def treeAll : List DL.D → Bool
  | [] => true
  | x :: xs => tree x && treeAll xs
end
theorem treeAll_iff : ∀ {xs : List DL.D}, treeAll xs = true ↔ ∀ x ∈ xs, tree x = true
  | [] => by simp [treeAll]
  | x :: xs => by simp [treeAll, treeAll_iff (xs := xs)]
theorem tree_tup {xs : List DL.D} : tree (.tup xs) = true ↔ ∀ x ∈ xs, tree x = true := by
  rw [tree, treeAll_iff]
def sp_bent (N : Nat) : DS1 := fun ds M Q => ∃ (a : Addr) (v : DL.D) (c : Nat), ds = [.ref a, v] ∧ Pot M a c ∧ tree v = true ∧ gd v = true ∧ dep v < N ∧ dep v ≤ 50 ∧ c + (3 * N + 5) ≤ 100000 ∧ wt v ≤ 3000 ∧
  ∀ v' M2, gd v' = true → dep v' ≤ dep v + 1 → wt v' ≤ 2 * wt v + 10 → Dr M a M2 (c + (3 * N + 5)) → Q v' M2

/-- a small number's text -/
theorem int_text (i : Int) (h : i.natAbs ≤ 1000) : gd (.str (toString i)) = true ∧ ((toString i : String) : Str).cps.size ≤ 10 := by
  have l : ((toString i : String) : Str).cps.size ≤ 5 := by
    have := PySem.int_text_length_le10 (a := i) (k := 4) (by decide) (by omega)
    have e := PySem.ofString_length (toString i)
    show (Str.ofString (toString i)).length ≤ 5
    rw [e]; exact this
  refine ⟨gd_str.mpr ⟨by omega, fun c hc => ?_⟩, by omega⟩
  by_cases h2 : c < 128
  · exact h2
  · exact absurd hc (PyProof.Rows.int_text_free' c ⟨by omega, .inr (by omega)⟩ i)
theorem rd_bent (N : Nat) : ∀ ds M Q, sp_bent (N + 1) ds M Q → ds.length = 2 ∧ r__law_bent sp_take (sp_bent N) sp_of sp_odd { nx := fun _ M' => Q .non M', rt := Q } (dstart N__law_bent ds) M := by
  rintro _ M Q ⟨a, v, c, rfl, p, tv, gv, dN, d50, hc, w3, q⟩
  refine ⟨rfl, ?_⟩
  cases v
  case tup xs =>
    obtain ⟨gl, ga⟩ := gd_tup.mp gv
    have tx := tree_tup.mp tv
    have wx : wtAll xs ≤ 3000 := w3
    have lx := wtAll_len xs
    -- what is left when the tuple is taken whole
    have whole : ∀ M1 c1, c1 ≤ c + 1 → Dr M a M1 c1 → ∀ D : DEnds, D.rt = Q → dIfS (dB (dIsi "tuple" (dSlot 1))) (dRet (dCall1 sp_of (dCons (dSlot 0) (dCons (dLst true (dCons (dCB (rListD true) (dCons (dSlot 1) dNil)) (dCons (dSl true (dSlot 1) (dPart (dC (.int 1))) dNoPart) (dCons (dSl true (dSlot 1) dNoPart (dPart (dNeg (dC (.int 1))))) (dCons (dOp (rAddD true) (dSlot 1) (dSl true (dSlot 1) (dPart (dNeg (dC (.int 1)))) dNoPart)) (dCons (dRevS true (dSlot 1)) (dCons (dTup dNil) (dCons (dC .non) dNil)))))))) dNil)))) dNext D [some (.ref a), some (.tup xs), none, none] M1 := by
      rintro M1 c1 h1 d1 ⟨_, _, _, _⟩ rfl
      refine ⟨_, rfl, _, rfl, true, rfl, ?_⟩
      refine ⟨_, rfl, ?_⟩
      refine ⟨_, rfl, _, xs, rfl, rfl, newTr ?_⟩
      refine ⟨_, rfl, 1, rfl, ?_⟩
      refine ⟨_, rfl, 1, rfl, -1, rfl, ?_⟩
      refine ⟨_, rfl, _, rfl, 1, rfl, -1, rfl, ?_⟩
      have l2 : (DL.cutD xs (some (-1)) none).length ≤ 3000 := by
        have := wtAll_len (DL.cutD xs (some (-1)) none)
        have := wtAll_cut xs (some (-1)) none
        omega
      refine ⟨small (n := xs.length + (DL.cutD xs (some (-1)) none).length) (by omega), ?_⟩
      refine ⟨_, rfl, ?_⟩
      refine ⟨small (by simp), small (by simp), newTr ?_⟩
      refine ⟨a, _, c1, rfl, d1.1, by omega, .inl ⟨_, rfl, by simp, by simp, fun d hd M2 d2 => ?_⟩⟩
      have dr : Dr M a M2 (c + (3 * (N + 1) + 5)) := (d1.trans d2).up (by omega)
      simp at hd
      rcases hd with rfl | rfl | rfl | rfl | rfl | rfl | rfl
      · obtain ⟨h1, h2, h3⟩ := some_items gv wx (ys := xs) (fun y h => h) (by omega)
        exact q _ _ (gd_lst.mpr (gd_tup.mp h1)) h2 h3 dr
      · obtain ⟨h1, h2, h3⟩ := some_items gv wx (ys := DL.cutD xs (some 1) none) (fun y h => cut_mem h) (by have := wtAll_cut xs (some 1) none; omega)
        exact q _ _ h1 h2 h3 dr
      · obtain ⟨h1, h2, h3⟩ := some_items gv wx (ys := DL.cutD xs none (some (-1))) (fun y h => cut_mem h) (by have := wtAll_cut xs none (some (-1)); omega)
        exact q _ _ h1 h2 h3 dr
      · obtain ⟨h1, h2, h3⟩ := some_items gv wx (ys := xs ++ DL.cutD xs (some (-1)) none) (fun y h => (List.mem_append.mp h).elim id cut_mem) (by rw [wtAll_append]; have := wtAll_cut xs (some (-1)) none; omega)
        exact q _ _ h1 h2 h3 dr
      · obtain ⟨h1, h2, h3⟩ := some_items gv wx (ys := xs.reverse) (fun y h => List.mem_reverse.mp h) (by rw [wtAll_rev]; omega)
        exact q _ _ h1 h2 h3 dr
      · obtain ⟨h1, h2, h3⟩ := some_items gv wx (ys := []) (fun y h => nomatch h) (by simp [wtAll])
        exact q _ _ h1 h2 h3 dr
      · exact q _ _ rfl (by simp [dep]) (by simp [wt]) dr
    refine ⟨_, rfl, _, rfl, true, rfl, ?_⟩
    refine ⟨_, rfl, small (by simp), ne_unit gv (by omega) ⟨_, rfl, ?_⟩⟩
    cases xs with
    | nil => exact whole M c (by omega) (Dr.refl p) _ rfl
    | cons x xs =>
      refine ⟨_, rfl, a, 5, c, rfl, p, by omega, by omega, by omega, fun d M1 h0 h1 d1 => ?_⟩
      refine ⟨_, _, rfl, rfl, trivial, decide (0 < d), rfl, ?_⟩
      by_cases hd : 0 < d
      · rw [decide_eq_true hd]
        refine ⟨_, rfl, _, rfl, _, rfl, a, _, c + 1, rfl, d1.1, by omega, by simp, by omega, fun at_ M2 e0 e1 d2 => ?_⟩
        obtain ⟨k, rfl⟩ := Int.eq_ofNat_of_zero_le e0
        have hk : k < (x :: xs).length := by omega
        have hy : (x :: xs)[k] ∈ x :: xs := List.getElem_mem hk
        have ee : atI (x :: xs) (k : Int) = some (x :: xs)[k] := L2.atI_nat (List.getElem?_eq_getElem hk)
        generalize hyk : (x :: xs)[k] = y at hy ee
        have wy := wt_mem hy
        have dy : dep y ≤ depAll (x :: xs) := depAll_le.mp (Nat.le_refl _) y hy
        have dv : dep (.tup (x :: xs)) = depAll (x :: xs) + 1 := rfl
        have wv : wt (.tup (x :: xs)) = wtAll (x :: xs) := rfl
        refine ⟨_, rfl, _, rfl, _, rfl, ?_⟩
        refine ⟨_, rfl, _, rfl, _, rfl, x :: xs, y, rfl, ee, a, y, c + 2, rfl, d2.1, tx y hy, ga y hy, by omega, by omega, by omega, by omega, fun y' M3 g3 dp3 w3 d3 => ?_⟩
        refine ⟨small (by simp), ?_⟩
        have t1 := List.length_take_le k (x :: xs)
        have t2 : ((x :: xs).drop (k + 1)).length ≤ (x :: xs).length := by rw [List.length_drop]; omega
        show rAddD true (.tup (DL.cutD (x :: xs) none (some (k : Int)))) (.tup [y']) M3 _
        rw [cut_to]
        refine add_tups ?_ ?_
        · have : [y'].length = 1 := rfl
          omega
        refine ⟨_, rfl, _, rfl, _, rfl, ?_⟩
        show rAddD true (.tup ((x :: xs).take k ++ [y'])) (.tup (DL.cutD (x :: xs) (some (((k + 1 : Nat)) : Int)) none)) M3 Q
        rw [cut_from]
        refine add_tups ?_ ?_
        · rw [List.length_append]
          have : [y'].length = 1 := rfl
          omega
        have mem : ∀ z ∈ (x :: xs).take k ++ [y'] ++ (x :: xs).drop (k + 1), z ∈ x :: xs ∨ z = y' := by
          intro z hz
          rcases List.mem_append.mp hz with h | h
          · rcases List.mem_append.mp h with h | h
            · exact .inl (List.mem_of_mem_take h)
            · exact .inr (List.mem_singleton.mp h)
          · exact .inl (List.mem_of_mem_drop h)
        refine q _ _ (gd_tup.mpr ⟨?_, ?_⟩) ?_ ?_ (((d1.trans d2).trans d3).up (by omega))
        · rw [List.length_append, List.length_append]
          have : [y'].length = 1 := rfl
          omega
        · intro z hz
          rcases mem z hz with h | h
          · exact ga z h
          · rw [h]; exact g3
        · have : depAll ((x :: xs).take k ++ [y'] ++ (x :: xs).drop (k + 1)) ≤ depAll (x :: xs) + 1 := depAll_le.mpr fun z hz => by
            rcases mem z hz with h | h
            · have := depAll_le.mp (Nat.le_refl _) z h
              omega
            · rw [h]; omega
          rw [dv]
          simp only [dep]
          omega
        · have h1 := wtAll_take (x :: xs) k
          have h2 : (x :: xs).drop k = y :: (x :: xs).drop (k + 1) := by rw [← hyk]; exact List.drop_eq_getElem_cons hk
          have h3 : wtAll ((x :: xs).drop k) = wt y + 1 + wtAll ((x :: xs).drop (k + 1)) := by rw [h2]; rfl
          have h4 : wtAll [y'] = wt y' + 1 := by simp [wtAll]
          rw [wv]
          simp only [wt]
          rw [wtAll_append, wtAll_append, h4]
          omega
      · rw [decide_eq_false hd]
        exact whole M1 (c + 1) (by omega) d1 _ rfl
  case str x =>
    obtain ⟨sx, cx⟩ := gd_str.mp gv
    have wx : x.cps.size ≤ 3000 := w3
    have dz : dep (.str x) = 0 := rfl
    have wz : wt (.str x) = x.cps.size := rfl
    refine ⟨_, rfl, _, rfl, false, rfl, ?_⟩
    refine ⟨_, rfl, _, rfl, false, rfl, ?_⟩
    refine ⟨_, rfl, _, rfl, false, rfl, ?_⟩
    refine ⟨_, rfl, _, rfl, false, rfl, ?_⟩
    refine ⟨_, rfl, _, rfl, true, rfl, ?_⟩
    have one : ∀ y : Str, y.cps.size = 1 → x.cps.size + y.cps.size ≤ 100000 := fun y h => by omega
    refine ⟨_, rfl, ?_⟩
    refine ⟨small (one "a" rfl), ?_⟩
    refine ⟨_, rfl, 1, rfl, -1, rfl, small sx, ?_⟩
    refine ⟨_, rfl, x, rfl, ?_, ?_⟩
    · show x.cps.size ≤ _
      omega
    refine ⟨_, rfl, small (by simp), newTr ⟨_, rfl, ?_⟩⟩
    refine ⟨small (n := (Str.ofString "b").cps.size + x.cps.size) (by have : (Str.ofString "b").cps.size = 1 := rfl; omega), ?_⟩
    refine ⟨_, rfl, ?_⟩
    refine ⟨small (one "/" rfl), ?_⟩
    refine ⟨small (by simp), newTr ?_⟩
    refine ⟨_, rfl, _, rfl, a, _, c, rfl, p, by omega, .inl ⟨_, rfl, by simp, by simp, fun d hd M2 d2 => ?_⟩⟩
    have dr : Dr M a M2 (c + (3 * (N + 1) + 5)) := d2.up (by omega)
    have lit : ∀ y : Str, gd (.str y) = true → y.cps.size ≤ 1 → Q (.str y) M2 := fun y g l => q _ _ g (by simp [dep]) (by simp only [wt]; omega) dr
    have app : ∀ y z : Str, gd (.str y) = true → gd (.str z) = true → y.cps.size + z.cps.size = x.cps.size + 1 → Q (.str (y ++ z)) M2 := fun y z g1 g2 l => by
      obtain ⟨h1, h2⟩ := gd_app g1 g2 (by omega)
      exact q _ _ h1 (by simp [dep]) (by simp only [wt]; omega) dr
    simp at hd
    rcases hd with rfl | rfl | rfl | rfl | rfl | rfl | rfl | rfl | rfl | rfl
    · exact app x _ gv rfl rfl
    · obtain ⟨h1, h2⟩ := gd_cut gv none (some (-1))
      exact q _ _ h1 (by simp [dep]) (by simp only [wt]; omega) dr
    · obtain ⟨h1, h2⟩ := up_small cx
      exact q _ _ (gd_str.mpr ⟨by omega, h2⟩) (by simp [dep]) (by simp only [wt]; omega) dr
    · exact q _ _ (gd_lst.mpr ⟨by simp, fun y hy => by rw [List.mem_singleton.mp hy]; exact gv⟩) (by simp [dep, depAll]) (by simp only [wt, wtAll]; omega) dr
    · exact lit _ rfl (by decide)
    · exact q _ _ rfl (by simp [dep]) (by simp [wt]) dr
    · exact q _ _ rfl (by simp [dep]) (by simp [wt]) dr
    · exact lit _ rfl (by decide)
    · exact app _ x rfl gv (by have : (Str.ofString "b").cps.size = 1 := rfl; omega)
    · exact app x _ gv rfl rfl
  case int i =>
    have hi : i.natAbs ≤ 1000 := by simpa [tree] using tv
    refine ⟨_, rfl, _, rfl, false, rfl, ?_⟩
    refine ⟨_, rfl, _, rfl, false, rfl, ?_⟩
    refine ⟨_, rfl, _, rfl, false, rfl, ?_⟩
    refine ⟨_, rfl, _, rfl, true, rfl, ?_⟩
    have lg : ∀ j : Int, j.natAbs ≤ 1001 → j.natAbs.log2 < 1900 := fun j hj => by
      have : j.natAbs < 2 ^ 1900 := Nat.lt_of_le_of_lt hj (Nat.lt_of_lt_of_le (by decide : 1001 < 2 ^ 10) (Nat.pow_le_pow_right (by decide) (by decide)))
      by_cases z : j.natAbs = 0
      · rw [z]; decide
      · exact (Nat.log2_lt z).mpr this
    refine ⟨_, rfl, _, rfl, _, rfl, _, _, rfl, rfl, trivial, ?_⟩
    refine ⟨_, rfl, i, rfl, ?_⟩
    refine ⟨_, rfl, i, rfl, Nat.lt_trans (lg i (by omega)) (by decide), ?_⟩
    refine ⟨_, rfl, ?_⟩
    refine ⟨_, rfl, small (by simp), small (by simp), newTr ?_⟩
    refine ⟨a, _, c, rfl, p, by omega, .inl ⟨_, rfl, by simp, by simp, fun d hd M2 d2 => ?_⟩⟩
    have dr : Dr M a M2 (c + (3 * (N + 1) + 5)) := d2.up (by omega)
    have num : ∀ j : Int, j.natAbs ≤ 1001 → Q (.int j) M2 := fun j hj => q _ _ (by simp only [gd]; exact decide_eq_true (lg j hj)) (by simp [dep]) (by simp [wt]) dr
    simp at hd
    rcases hd with rfl | rfl | rfl | rfl | rfl | rfl | rfl
    · exact num _ (by omega)
    · exact num _ (by omega)
    · exact num _ (by omega)
    · have t4 := int_text i hi
      exact q _ _ t4.1 (by simp [dep]) (by have := t4.2; simp only [wt]; omega) dr
    · exact q _ _ rfl (by simp [dep]) (by simp [wt]) dr
    · exact q _ _ rfl (by simp [dep]) (by simp [wt]) dr
    · exact q _ _ (gd_tup.mpr ⟨by simp, fun y hy => by rw [List.mem_singleton.mp hy]; simp only [gd]; exact decide_eq_true (lg i (by omega))⟩) (by simp [dep, depAll]) (by simp only [wt, wtAll]; omega) dr
  all_goals simp [tree] at tv
end K27

set_option maxHeartbeats 4000000
/-! K27p: types (turned from K02p, q). -/
namespace K27
open PySem PySem.Spec DL KB
open L2 (atI ixN)
open PyProof.Rows hiding St signs
inductive Ty where
  | leaf (s : Bool) (x : List Nat)
  | star (t : Ty)
  | pair (o : Bool) (a b : Ty)
def wd (s : Bool) : Str := if s then "sign" else "text"
def pw (o : Bool) : Str := if o then "or" else "cat"
abbrev S (l : List Nat) : Str := ⟨l.toArray⟩
def Ty.d : Ty → DL.D
  | .leaf s x => .tup [.str (wd s), .str (S x)]
  | .star t => .tup [.str "star", t.d]
  | .pair o a b => .tup [.str (pw o), a.d, b.d]
def lfB (s : Bool) (x : List Nat) : Bool := leafB (wd s) (.str (S x))
def Ty.ok : Ty → Bool
  | .leaf s x => lfB s x
  | .star t => t.ok
  | .pair _ a b => a.ok && b.ok
/-- how deep the words stand within one another -/
def Ty.hi : Ty → Nat
  | .leaf _ _ => 1
  | .star t => t.hi + 1
  | .pair _ a b => max a.hi b.hi + 1
def Ty.nodes : Ty → Nat
  | .leaf _ _ => 1
  | .star t => t.nodes + 1
  | .pair _ a b => a.nodes + b.nodes + 1
theorem text_ok {x : List Nat} {m : Int} (h : textB (.str (S x)) m = true) : (x.length : Int) ≤ m ∧ ∀ c ∈ x, okSign c = true := by
  unfold textB at h
  simp only [Bool.and_eq_true, decide_eq_true_eq, List.all_eq_true] at h
  exact ⟨by simpa [Str.length] using h.1, fun c hc => h.2 c (by simpa using hc)⟩
theorem lf_ok {s : Bool} {x : List Nat} (h : lfB s x = true) : x.length ≤ 44 ∧ ∀ c ∈ x, okSign c = true := by
  cases s with
  | false =>
    have h' : textB (.str (S x)) 20 = true := by
      unfold lfB leafB at h
      rw [if_pos (by rfl)] at h
      exact h
    obtain ⟨a, b⟩ := text_ok h'
    exact ⟨by omega, b⟩
  | true =>
    have h' : signB (.str (S x)) = true := by
      unfold lfB leafB at h
      rw [if_neg (by decide)] at h
      exact h
    unfold signB at h'
    simp only [Bool.and_eq_true] at h'
    obtain ⟨a, b⟩ := text_ok h'.1.1
    exact ⟨by omega, b⟩
theorem S_size (l : List Nat) : (S l).cps.size = l.length := by simp
theorem S_list (l : List Nat) : (S l).cps.toList = l := by simp
theorem S_len (l : List Nat) : (S l).length = l.length := by simp [Str.length]
theorem S_app (a b : List Nat) : S a ++ S b = S (a ++ b) := by
  show (⟨(S a).cps ++ (S b).cps⟩ : Str) = _
  simp
theorem S_of (x : Str) : x = S x.cps.toList := by cases x; simp
theorem S_inj {a b : List Nat} (h : S a = S b) : a = b := by
  have := congrArg (fun s : Str => s.cps.toList) h
  simpa using this
theorem gd_wd (s : Bool) : gd (.str (wd s)) = true := by cases s <;> decide +kernel
theorem gd_pw (o : Bool) : gd (.str (pw o)) = true := by cases o <;> decide +kernel
theorem gd_S {x : List Nat} (l : x.length ≤ 100000) (h : ∀ c ∈ x, c < 128) : gd (.str (S x)) = true := gd_str.mpr ⟨by rw [S_size]; exact l, by rw [S_list]; exact h⟩
theorem gd_leaf {s : Bool} {x : List Nat} (h : lfB s x = true) : gd (.str (S x)) = true := by
  obtain ⟨a, b⟩ := lf_ok h
  exact gd_S (by omega) fun c hc => ok_small (b c hc)
theorem ty_gd : ∀ {t : Ty}, t.ok = true → gd t.d = true
  | .leaf s x, h => gd_tup.mpr ⟨by simp, fun y hy => by
    simp at hy
    rcases hy with rfl | rfl
    · exact gd_wd s
    · exact gd_leaf h⟩
  | .star t, h => gd_tup.mpr ⟨by simp, fun y hy => by
    simp at hy
    rcases hy with rfl | rfl
    · decide +kernel
    · exact ty_gd (t := t) h⟩
  | .pair o a b, h => by
    simp only [Ty.ok, Bool.and_eq_true] at h
    refine gd_tup.mpr ⟨by simp, fun y hy => ?_⟩
    simp at hy
    rcases hy with rfl | rfl | rfl
    · exact gd_pw o
    · exact ty_gd h.1
    · exact ty_gd h.2
theorem ty_dep : ∀ t : Ty, dep t.d = t.hi
  | .leaf s x => by simp [Ty.d, dep, depAll, Ty.hi]
  | .star t => by have := ty_dep t; simp [Ty.d, dep, depAll, Ty.hi, this]
  | .pair o a b => by have h1 := ty_dep a; have h2 := ty_dep b; simp [Ty.d, dep, depAll, Ty.hi, h1, h2]
theorem wd_size (s : Bool) : (wd s).cps.size = 4 := by cases s <;> rfl
theorem pw_size (o : Bool) : (pw o).cps.size ≤ 3 := by cases o <;> decide
theorem ty_wt : ∀ {t : Ty}, t.ok = true → wt t.d ≤ 60 * t.nodes
  | .leaf s x, h => by
    have := (lf_ok h).1
    have e := wd_size s
    have e2 := S_size x
    simp only [Ty.d, wt, wtAll, Ty.nodes, e] at e2 ⊢
    omega
  | .star t, h => by
    have := ty_wt (t := t) h
    have e : (Str.ofString "star").cps.size = 4 := rfl
    simp only [Ty.d, wt, wtAll, Ty.nodes, e]
    omega
  | .pair o a b, h => by
    simp only [Ty.ok, Bool.and_eq_true] at h
    have h1 := ty_wt h.1
    have h2 := ty_wt h.2
    have := pw_size o
    simp only [Ty.d, wt, wtAll, Ty.nodes]
    omega
theorem ty_node : ∀ {t : Ty}, t.ok = true → nodeB t.d = true
  | .leaf s x, h => by
    show (if wd s ∈ LV then leafB (wd s) (.str (S x)) else decide (wd s = "star")) = true
    rw [if_pos (by cases s <;> decide)]
    exact h
  | .star t, h => by
    show (if ("star" : Str) ∈ LV then leafB "star" t.d else decide (("star" : Str) = "star")) = true
    rw [if_neg (by decide)]
    exact decide_eq_true rfl
  | .pair o a b, h => by
    show decide (pw o ∈ PR) = true
    cases o <;> decide
theorem parts_leaf (s : Bool) (x : List Nat) : partsB (Ty.leaf s x).d = [] := by cases s <;> rfl
theorem parts_star (t : Ty) : partsB (Ty.star t).d = [t.d] := by rfl
theorem parts_pair (o : Bool) (a b : Ty) : partsB (Ty.pair o a b).d = [a.d, b.d] := by cases o <;> rfl
theorem ty_count : ∀ {t : Ty} {n : Nat}, t.ok = true → t.hi ≤ n → countT n t.d = t.nodes
  | t, 0, _, h => by cases t <;> simp [Ty.hi] at h
  | .leaf s x, n + 1, o, h => by
    rw [countT, if_pos (ty_node o), parts_leaf]
    rfl
  | .star t, n + 1, o, h => by
    rw [countT, if_pos (ty_node o), parts_star]
    have := ty_count (t := t) (n := n) o (by simp only [Ty.hi] at h; omega)
    simp [this, Ty.nodes]
    omega
  | .pair q a b, n + 1, o, h => by
    rw [countT, if_pos (ty_node o), parts_pair]
    simp only [Ty.ok, Bool.and_eq_true] at o
    simp only [Ty.hi] at h
    have h1 := ty_count (t := a) (n := n) o.1 (by omega)
    have h2 := ty_count (t := b) (n := n) o.2 (by omega)
    simp [h1, h2, Ty.nodes]
    omega
theorem ix2 {x y z : DL.D} {r : List DL.D} : atI (x :: y :: z :: r) 2 = some z := L2.atI_nat (j := 2) rfl
theorem addS {u v : Str} {a b : List Nat} {M : Mp} {Q : DK} (hu : u = S a) (hv : v = S b) (l : a.length + b.length ≤ 100000) (q : Q (.str (S (a ++ b))) M) : rAddD true (.str u) (.str v) M Q := by
  subst hu hv
  exact add_strs (by simpa using l) (by rw [S_app]; exact q)
theorem eq_op {a b : Str} {M : Mp} {G : Bool → Mp → Prop} (q : G (decide (a = b)) M) : rEqD2 false (.str a) (.str b) M fun d M1 => ∃ v, d = .bl v ∧ G v M1 := ⟨_, rfl, q⟩
theorem cutS_to (x : List Nat) (k : Nat) : L2.cutS (S x) none (some (k : Int)) = S (x.take k) := by
  rw [← cut_to x k]
  unfold L2.cutS DL.cutD
  rw [S_len]
theorem cutS_from (x : List Nat) (k : Nat) : L2.cutS (S x) (some (k : Int)) none = S (x.drop k) := by
  rw [← cut_from x k]
  unfold L2.cutS DL.cutD
  rw [S_len]
def Fair (v : DL.D) : Prop := gd v = true ∧ dep v ≤ 60 ∧ wt v ≤ 8000
def Fair1 (v : DL.D) : Bool := gd v && decide (dep v ≤ 60) && decide (wt v ≤ 8000)
theorem fair_by {v : DL.D} (h : Fair1 v = true) : Fair v := by
  simp only [Fair1, Bool.and_eq_true, decide_eq_true_eq] at h
  exact ⟨h.1.1, h.1.2, h.2⟩
theorem isC_same (x : Str) : isC x x = true := by unfold isC; simp
theorem str_same {s : Str} {M : Mp} {Q : DK} (q : Q (.bl true) M) : rEqD2 false (.str s) (.str s) M Q := by
  show Q (.bl (decide (s = s))) M
  rw [decide_eq_true rfl]
  exact q
end K27

set_option maxHeartbeats 4000000
/-! K27q: where a text of a type ends; the walk over a star. -/
namespace K27
open PySem PySem.Spec DL KB
open L2 (atI ixN)
open PyProof.Rows hiding St signs

inductive Cl (R : Nat → Nat → Prop) (b : Nat) : Nat → Prop where
  | rf : Cl R b b
  | st {m e : Nat} : Cl R b m → R m e → Cl R b e
def En (T : List Nat) : Ty → Nat → Nat → Prop
  | .leaf false x, b, e => e = b + x.length ∧ (T.drop b).take x.length = x
  | .leaf true x, b, e => e = b + 1 ∧ ∃ c, T[b]? = some c ∧ c ∈ x
  | .star t, b, e => Cl (En T t) b e
  | .pair false u v, b, e => ∃ m, En T u b m ∧ En T v m e
  | .pair true u v, b, e => En T u b e ∨ En T v b e
theorem en_le {T : List Nat} : ∀ {t : Ty} {b e : Nat}, En T t b e → b ≤ T.length → e ≤ T.length
  | .leaf false x, b, e, ⟨h1, h2⟩, hb => by
    have := congrArg List.length h2
    rw [List.length_take, List.length_drop] at this
    omega
  | .leaf true x, b, e, ⟨h1, c, h2, _⟩, hb => by
    obtain ⟨h3, _⟩ := List.getElem?_eq_some_iff.mp h2
    omega
  | .star t, b, e, h, hb => by
    induction h with
    | rf => exact hb
    | st h1 h2 ih => exact en_le h2 ih
  | .pair false u v, b, e, ⟨m, h1, h2⟩, hb => en_le h2 (en_le h1 hb)
  | .pair true u v, b, e, h, hb => h.elim (fun h => en_le h hb) fun h => en_le h hb
theorem nodup_len {α : Type} [BEq α] [LawfulBEq α] : ∀ {ks l : List α}, ks.Nodup → (∀ k ∈ ks, k ∈ l) → ks.length ≤ l.length
  | [], _, _, _ => Nat.zero_le _
  | k :: ks, l, nd, h => by
    obtain ⟨n1, n2⟩ := List.nodup_cons.mp nd
    have hk := h k List.mem_cons_self
    have e := List.length_erase_of_mem hk
    have := nodup_len (l := l.erase k) n2 fun y hy => (List.mem_erase_of_ne (fun z => by rw [z] at hy; exact n1 hy)).mpr (h y (List.mem_cons_of_mem _ hy))
    have : 0 < l.length := List.length_pos_of_mem hk
    simp only [List.length_cons]
    omega
theorem few {l : List Nat} {L : Nat} (nd : l.Nodup) (h : ∀ x ∈ l, x ≤ L) : l.length ≤ L + 1 := by
  have := nodup_len (l := List.range (L + 1)) nd fun k hk => List.mem_range.mpr (by have := h k hk; omega)
  simpa using this
theorem pw_nodup {l : List Nat} (h : l.Pairwise (· < ·)) : l.Nodup := h.imp fun h => Nat.ne_of_lt h
structure Walk (R : Nat → Nat → Prop) (b L : Nat) (fs ws : List Nat) : Prop where
  inF : ∀ x ∈ fs, Cl R b x
  inW : ∀ x ∈ ws, Cl R b x
  cl : ∀ x ∈ fs, ∀ y, R x y → y ∈ fs ∨ y ∈ ws
  bs : b ∈ fs ∨ b ∈ ws
  nd : fs.Nodup
  len : ws.length ≤ 1 + (L + 1) * fs.length
section
variable {R : Nat → Nat → Prop} {b L p : Nat} {fs ws l : List Nat}
theorem Walk.new : Walk R b L [] [b] := ⟨fun _ h => (nomatch h), fun x h => by rw [List.mem_singleton.mp h]; exact .rf, fun _ h => (nomatch h), .inr (by simp), .nil, by simp⟩
theorem Walk.popIn (h : Walk R b L fs (ws ++ [p])) (hp : p ∈ fs) : Walk R b L fs ws := by
  have cut : ∀ {y : Nat}, y ∈ fs ∨ y ∈ ws ++ [p] → y ∈ fs ∨ y ∈ ws := fun z => by
    rcases z with z | z
    · exact .inl z
    · rcases List.mem_append.mp z with z | z
      · exact .inr z
      · rw [List.mem_singleton.mp z]; exact .inl hp
  refine ⟨h.inF, fun x hx => h.inW x (by simp [hx]), fun x hx y r => cut (h.cl x hx y r), cut h.bs, h.nd, ?_⟩
  have := h.len
  simp at this
  omega
theorem Walk.popNew (h : Walk R b L fs (ws ++ [p])) (hp : p ∉ fs) (hl : ∀ e, e ∈ l ↔ R p e) (ll : l.length ≤ L + 1) : Walk R b L (fs ++ [p]) (ws ++ l) := by
  have cut : ∀ {y : Nat}, y ∈ fs ∨ y ∈ ws ++ [p] → y ∈ fs ++ [p] ∨ y ∈ ws ++ l := fun z => by
    rcases z with z | z
    · exact .inl (by simp [z])
    · rcases List.mem_append.mp z with z | z
      · exact .inr (by simp [z])
      · exact .inl (by simp [List.mem_singleton.mp z])
  have cp : Cl R b p := h.inW p (by simp)
  refine ⟨fun x hx => ?_, fun x hx => ?_, fun x hx y r => ?_, cut h.bs, ?_, ?_⟩
  · rcases List.mem_append.mp hx with z | z
    · exact h.inF x z
    · rw [List.mem_singleton.mp z]; exact cp
  · rcases List.mem_append.mp hx with z | z
    · exact h.inW x (by simp [z])
    · exact .st cp ((hl x).mp z)
  · rcases List.mem_append.mp hx with z | z
    · exact cut (h.cl x z y r)
    · rw [List.mem_singleton.mp z] at r
      exact .inr (by simp [(hl y).mpr r])
  · rw [List.nodup_append]
    exact ⟨h.nd, by simp, fun a ha c hc => by rw [List.mem_singleton.mp hc]; rintro rfl; exact hp ha⟩
  · have := h.len
    simp at this ⊢
    rw [Nat.mul_add]
    omega
theorem Walk.done (h : Walk R b L fs []) : ∀ e, e ∈ fs ↔ Cl R b e := fun e => ⟨h.inF e, fun c => by
  induction c with
  | rf => exact h.bs.elim id fun z => nomatch z
  | st _ r ih => exact (h.cl _ ih _ r).elim id fun z => nomatch z⟩
theorem Walk.le (h : Walk R b L fs ws) (hb : b ≤ L) (hR : ∀ x y, R x y → x ≤ L → y ≤ L) : (∀ x ∈ fs, x ≤ L) ∧ (∀ x ∈ ws, x ≤ L) ∧ fs.length ≤ L + 1 := by
  have c : ∀ x, Cl R b x → x ≤ L := fun x h => by
    induction h with
    | rf => exact hb
    | st _ r ih => exact hR _ _ r ih
  have f : ∀ x ∈ fs, x ≤ L := fun x hx => c x (h.inF x hx)
  exact ⟨f, fun x hx => c x (h.inW x hx), few h.nd f⟩
end
/-! ### the rows of numbers -/
def Lst (l : List Nat) : List DL.D := l.map fun (n : Nat) => DL.D.int (n : Int)
def cs (l : List Nat) : List Int := l.map fun (n : Nat) => (n : Int)
theorem lst_cs (l : List Nat) : (cs l).map DL.D.int = Lst l := by unfold cs Lst; rw [List.map_map]; rfl
theorem cs_mem {l : List Nat} {k : Int} : k ∈ cs l ↔ ∃ n ∈ l, k = (n : Int) := by
  unfold cs; rw [List.mem_map]; exact ⟨fun ⟨n, h, e⟩ => ⟨n, h, e.symm⟩, fun ⟨n, h, e⟩ => ⟨n, h, e.symm⟩⟩
theorem cs_mem' {l : List Nat} {n : Nat} : (n : Int) ∈ cs l ↔ n ∈ l := by
  rw [cs_mem]
  exact ⟨fun ⟨m, h, e⟩ => by rw [Int.ofNat.inj e]; exact h, fun h => ⟨n, h, rfl⟩⟩
theorem cs_of : ∀ {ms : List Int}, (∀ k ∈ ms, ∃ n : Nat, k = (n : Int)) → ∃ l : List Nat, ms = cs l
  | [], _ => ⟨[], rfl⟩
  | k :: ms, h => by
    obtain ⟨l, rfl⟩ := cs_of (ms := ms) fun x hx => h x (List.mem_cons_of_mem _ hx)
    obtain ⟨n, rfl⟩ := h k List.mem_cons_self
    exact ⟨n :: l, rfl⟩
theorem cs_lt {l : List Nat} : (cs l).Pairwise (· < ·) ↔ l.Pairwise (· < ·) := by
  unfold cs
  rw [List.pairwise_map]
  exact ⟨fun h => h.imp fun h => Int.ofNat_lt.mp h, fun h => h.imp fun h => Int.ofNat_lt.mpr h⟩
theorem cs_app (a b : List Nat) : cs (a ++ b) = cs a ++ cs b := by unfold cs; simp
theorem lst_app (a b : List Nat) : Lst (a ++ b) = Lst a ++ Lst b := by unfold Lst; simp
theorem lst_len (a : List Nat) : (Lst a).length = a.length := by unfold Lst; simp
/-- sorted of a set -/
theorem set_sorted {ms : List Int} {a : List Nat} (h : ms.Pairwise (· < ·)) (m : ∀ k, k ∈ ms ↔ k ∈ cs a) : ∃ l : List Nat, ms = cs l ∧ l.Pairwise (· < ·) ∧ ∀ e, e ∈ l ↔ e ∈ a := by
  obtain ⟨l, rfl⟩ := cs_of (ms := ms) fun k hk => let ⟨n, _, e⟩ := cs_mem.mp ((m k).mp hk); ⟨n, e⟩
  exact ⟨l, rfl, cs_lt.mp h, fun e => by rw [← cs_mem', m, cs_mem']⟩
/-- sorted of what is there once -/
theorem once_sorted {ms : List Int} {a : List Nat} (h : ms.Perm (cs a)) (s : ms.Pairwise (· ≤ ·)) (nd : a.Nodup) : ∃ l : List Nat, ms = cs l ∧ l.Pairwise (· < ·) ∧ ∀ e, e ∈ l ↔ e ∈ a := by
  have n2 : (cs a).Nodup := by
    unfold cs
    show List.Pairwise _ _
    rw [List.pairwise_map]
    exact nd.imp fun h z => h (Int.ofNat.inj z)
  have n3 : ms.Nodup := h.nodup_iff.mpr n2
  refine set_sorted (List.Pairwise.imp (fun {a b} (h : a ≤ b ∧ a ≠ b) => Int.lt_iff_le_and_ne.mpr h) (s.and n3)) fun k => h.mem_iff
end K27

set_option maxHeartbeats 4000000
/-! K27d: ends_of_type. -/
namespace K27
open PySem PySem.Spec DL KB
open L2 (atI ixN)
open PyProof.Rows hiding St signs
theorem cut_two {α : Type} (xs : List α) {k m : Nat} (h : k ≤ m) : DL.cutD xs (some (k : Int)) (some (m : Int)) = (xs.drop k).take (m - k) := by
  unfold DL.cutD
  rw [HT.sIx_nat, HT.sIx_nat]
  by_cases h2 : m ≤ xs.length
  · rw [Nat.min_eq_left h2, Nat.min_eq_left (by omega)]
  · by_cases h3 : k ≤ xs.length
    · rw [Nat.min_eq_right (by omega), Nat.min_eq_left h3, List.take_of_length_le (by rw [List.length_drop]; omega), List.take_of_length_le (by rw [List.length_drop]; omega)]
    · rw [Nat.min_eq_right (show xs.length ≤ k by omega), List.drop_length, List.drop_of_length_le (by omega)]
      simp
theorem cutS_two (x : List Nat) {k m : Nat} (h : k ≤ m) : L2.cutS (S x) (some (k : Int)) (some (m : Int)) = S ((x.drop k).take (m - k)) := by
  rw [← cut_two x h]
  unfold L2.cutS DL.cutD
  rw [S_len]
/-- a for loop along what was passed -/
theorem for_pre {α : Type} {g : DTG} {tb : DTS} {D : DEnds} {G : Mp → Prop} (f : α → DL.D) (all : List α) (I : List α → Rho → Mp → Prop) (hG : ∀ p ρ M, I p ρ M → G M)
    (step : ∀ (pre : List α) (z : α) (suf : List α), pre ++ z :: suf = all → ∀ ρ M, I pre ρ M → ∀ N : Rho → Mp → Prop, (∀ ρ' M', I (pre ++ [z]) ρ' M' → N ρ' M') → g (f z) ρ M fun ρ2 M2 => tb { D with nx := N, ct := N, bk := D.nx } ρ2 M2)
    (fin : ∀ ρ' M', I all ρ' M' → D.nx ρ' M') : ∀ (zs pre : List α) (ρ : Rho) (M : Mp), pre ++ zs = all → I pre ρ M → forW g tb D G (zs.map f) ρ M
  | [], pre, ρ, M, e, i => by
    rw [List.append_nil] at e
    subst e
    exact ⟨hG _ _ _ i, fin ρ M i⟩
  | z :: zs, pre, ρ, M, e, i => by
    refine ⟨hG _ _ _ i, step pre z zs e ρ M i _ fun ρ' M' i' => ?_⟩
    exact for_pre f all I hG step fin zs (pre ++ [z]) ρ' M' (by rw [← e]; simp) i'
theorem SubM.none {M M' : Mp} (h : SubM M M') {a : Addr} (e : M' a = Option.none) : M a = Option.none := by
  cases q : M a with
  | none => rfl
  | some m => rw [h a m q] at e; cases e

theorem cut_mid (x : List Nat) (k n : Nat) : L2.cutS (S x) (some (k : Int)) (some ((k : Int) + (n : Nat))) = S ((x.drop k).take n) := by
  rw [show (k : Int) + (n : Int) = ((k + n : Nat) : Int) by omega, cutS_two x (Nat.le_add_right k n), Nat.add_sub_cancel_left]
/-- the keys of a dict of places -/
def KV (l : List Nat) : List ((Int ⊕ Str) × DL.D) := l.map fun (n : Nat) => (Sum.inl (n : Int), DL.D.bl true)
theorem kv_keys (l : List Nat) : (KV l).map (·.1) = (cs l).map Sum.inl := by unfold KV cs; rw [List.map_map, List.map_map]; rfl
theorem kv_len (l : List Nat) : (KV l).length = l.length := by unfold KV; simp
theorem kv_app (a b : List Nat) : KV (a ++ b) = KV a ++ KV b := by unfold KV; simp
theorem kv_zip : ∀ l : List Nat, ((KV l).map (·.1)).zip ((KV l).map (·.2)) = KV l
  | [] => rfl
  | n :: l => by
    have := kv_zip l
    unfold KV at this ⊢
    simp only [List.map_cons, List.zip_cons_cons, this]
theorem kv_any (l : List Nat) (n : Nat) : ((KV l).any fun kv => decide (kv.1 = Sum.inl (n : Int))) = decide (n ∈ l) := by
  induction l with
  | nil => rfl
  | cons m l ih =>
    unfold KV at ih ⊢
    rw [List.map_cons, List.any_cons, ih]
    by_cases h : m = n
    · subst h; simp
    · have : ¬ n = m := fun z => h z.symm
      simp [this]
      intro z
      exact absurd (Int.ofNat.inj z) h
theorem kv_put (l : List Nat) (n : Nat) : putKD (KV l) (Sum.inl (n : Int)) (DL.D.bl true) = if n ∈ l then KV l else KV (l ++ [n]) := by
  unfold putKD
  rw [kv_any]
  by_cases h : n ∈ l
  · rw [if_pos (decide_eq_true h), if_pos h]
    unfold KV
    rw [List.map_map]
    refine List.map_congr_left fun m _ => ?_
    show (if _ then _ else _) = _
    split <;> rfl
  · rw [if_neg (by simp [h]), if_neg h, kv_app]
    rfl
theorem kv_val (l : List Nat) (n : Nat) : (valKD (KV l) (Sum.inl (n : Int))).isSome = decide (n ∈ l) := by
  unfold valKD
  rw [Option.isSome_map, ← kv_any l n]
  refine Bool.eq_iff_iff.mpr ?_
  rw [List.find?_isSome, List.any_eq_true]
theorem kv_merge : ∀ (l fs : List Nat), fs.Nodup → ∃ fs', mergeKD (KV fs) (KV l) = KV fs' ∧ fs'.Nodup ∧ ∀ e, e ∈ fs' ↔ e ∈ fs ∨ e ∈ l
  | [], fs, nd => ⟨fs, rfl, nd, fun e => by simp⟩
  | n :: l, fs, nd => by
    have e0 : mergeKD (KV fs) (KV (n :: l)) = mergeKD (putKD (KV fs) (Sum.inl (n : Int)) (DL.D.bl true)) (KV l) := rfl
    rw [e0, kv_put]
    by_cases h : n ∈ fs
    · rw [if_pos h]
      obtain ⟨f, a, b, c⟩ := kv_merge l fs nd
      refine ⟨f, a, b, fun e => ?_⟩
      rw [c, List.mem_cons]
      exact ⟨fun z => z.elim .inl fun z => .inr (.inr z), fun z => z.elim .inl fun z => z.elim (fun z => .inl (z ▸ h)) .inr⟩
    · rw [if_neg h]
      obtain ⟨f, a, b, c⟩ := kv_merge l (fs ++ [n]) (by rw [List.nodup_append]; exact ⟨nd, by simp, fun a ha c hc => by rw [List.mem_singleton.mp hc]; rintro rfl; exact h ha⟩)
      refine ⟨f, a, b, fun e => ?_⟩
      rw [c, List.mem_append, List.mem_singleton, List.mem_cons, or_assoc]
/-- {end: True for end in ..} -/
theorem dc_ints {ρ : Rho} {G : Mp → Prop} {M : Mp} (hG : G M) (hr : 4 < ρ.length) {k : List ((Int ⊕ Str) × DL.D) → Mp → Prop} : ∀ (l acc : List Nat), (acc ++ l).Nodup → acc.length + l.length ≤ 100000 → k (KV (acc ++ l)) M →
    dcW (dgName 4) dYes (dSlot 4) (dC (.bl true)) G ρ k (Lst l) (KV acc) M
  | [], acc, _, _, h => ⟨hG, by simpa using h⟩
  | n :: l, acc, nd, hl, h => by
    rw [List.length_cons] at hl
    refine ⟨hG, ?_⟩
    have at4 : (ρ.set 4 (some (DL.D.int (n : Int))))[4]? = some (some (.int (n : Int))) := by rw [List.getElem?_set_self (by omega)]
    refine ⟨_, at4, Sum.inl (n : Int), rfl, Nat.lt_of_lt_of_le (by rw [kv_len]; omega : (KV acc).length < 100000) (small (Nat.le_refl _)), ?_⟩
    have nn : n ∉ acc := by
      rw [List.nodup_append] at nd
      intro z
      exact nd.2.2 n z n List.mem_cons_self rfl
    rw [kv_put, if_neg nn]
    exact dc_ints hG hr l (acc ++ [n]) (by simpa using nd) (by simp; omega) (by simpa using h)
theorem few_i {a : List Nat} {L : Nat} (h : ∀ x ∈ a, x ≤ L) (hL : L ≤ 100) : FewI (cs a) := fun ks nd m => by
  obtain ⟨l, rfl⟩ := cs_of (ms := ks) fun k hk => let ⟨n, _, e⟩ := cs_mem.mp (m k hk); ⟨n, e⟩
  have n2 : l.Nodup := by
    unfold cs at nd
    have nd : List.Pairwise _ _ := nd
    rw [List.pairwise_map] at nd
    exact nd.imp fun h z => h (congrArg _ z)
  have := few n2 (L := L) fun x hx => h x (cs_mem'.mp (m _ (cs_mem'.mpr hx)))
  have e : (cs l).length = l.length := by unfold cs; simp
  have e2 : scanBound = 4096 := rfl
  omega
theorem lst_gd {l : List Nat} (h : ∀ x ∈ l, x ≤ 100) : (∀ x ∈ Lst l, gd x = true) ∧ depAll (Lst l) ≤ 63 := by
  have a : ∀ x ∈ Lst l, gd x = true ∧ dep x = 0 := fun x hx => by
    unfold Lst at hx
    obtain ⟨n, hn, rfl⟩ := List.mem_map.mp hx
    have := h n hn
    have : n.log2 ≤ n := Nat.log2_le_self n
    have e : ((n : Nat) : Int).natAbs = n := by omega
    refine ⟨?_, rfl⟩
    simp only [gd]
    exact decide_eq_true (by rw [e]; omega)
  exact ⟨fun x hx => (a x hx).1, depAll_le.mpr fun x hx => by rw [(a x hx).2]; omega⟩
theorem lst_eqV (p : Nat) : ∀ l : List Nat, ((Lst l).any fun y => L2.eqV (vOf y) (vOf (D.int (p : Int)))) = decide (p ∈ l)
  | [] => rfl
  | n :: l => by
    have ih := lst_eqV p l
    unfold Lst at ih ⊢
    rw [List.map_cons, List.any_cons, ih]
    have : L2.eqV (vOf (D.int (n : Int))) (vOf (D.int (p : Int))) = decide (p = n) := by
      show ((n : Int) == (p : Int)) = _
      by_cases h : p = n
      · subst h; simp
      · have : ¬ ((n : Int) = (p : Int)) := fun z => h (Int.ofNat.inj z).symm
        simp [h, this]
    rw [this]
    by_cases h : p = n <;> simp [h]
theorem lst_flat (l : List Nat) : (Lst l).all flatD = true := by
  unfold Lst
  rw [List.all_map]; exact List.all_eq_true.mpr fun _ _ => rfl
/-- a number in a row of numbers -/
theorem in_lst {neg : Bool} {p : Nat} {l : List Nat} {d : DL.D} {M : Mp} {Q : DK} (h : seqOf M d = some (Lst l)) (hs : ∀ y, d ≠ .str y) (q : Q (.bl (if neg then !decide (p ∈ l) else decide (p ∈ l))) M) : DL.rInD neg (.int (p : Int)) d M Q := by
  have go : ∃ ys, seqOf M d = some ys ∧ flatD (D.int (p : Int)) = true ∧ ys.all flatD = true ∧ Q (.bl (if neg then !(ys.any fun y => L2.eqV (vOf y) (vOf (D.int (p : Int)))) else ys.any fun y => L2.eqV (vOf y) (vOf (D.int (p : Int))))) M :=
    ⟨Lst l, h, rfl, lst_flat l, by rw [lst_eqV]; exact q⟩
  cases d <;> exact go
def sp_ends1 (N : Nat) : DS1 := fun ds M Q => ∃ (t : Ty) (T : List Nat) (b : Nat), ds = [t.d, .str (S T), .int (b : Nat)] ∧ t.ok = true ∧ t.hi < N ∧ T.length ≤ 100 ∧ b ≤ T.length ∧
  ∀ l : List Nat, l.Pairwise (· < ·) → (∀ e, e ∈ l ↔ En T t b e) → ∀ M', SubM M M' → Q (.lst (Lst l)) M'
def sp_ends (N : Nat) : DS1 := fun ds M Q => ∃ (t : Ty) (T : List Nat) (b : Nat), ds = [t.d, .str (S T), .int (b : Nat)] ∧ t.ok = true ∧ t.hi < N ∧ T.length ≤ 100 ∧ b ≤ T.length ∧
  ∀ l : List Nat, l.Pairwise (· < ·) → (∀ e, e ∈ l ↔ En T t b e) → Q (.lst (Lst l)) M
theorem wk_ends (N : Nat) : ∀ ds M Q, sp_ends N ds M Q → sp_ends1 N ds M fun d M1 => ∃ M2, SubM M2 M1 ∧ Q d M2 := by
  rintro _ M Q ⟨t, T, b, rfl, o, h, l, hb, q⟩
  exact ⟨t, T, b, rfl, o, h, l, hb, fun l p m M' s => ⟨M, s, q l p m⟩⟩
theorem ends_le {T : List Nat} {t : Ty} {b : Nat} {l : List Nat} (m : ∀ e, e ∈ l ↔ En T t b e) (hb : b ≤ T.length) : ∀ x ∈ l, x ≤ T.length := fun x hx => en_le ((m x).mp hx) hb

theorem rd_ends (N : Nat) : ∀ ds M Q, sp_ends1 (N + 1) ds M Q → ds.length = 3 ∧ r_ends_of_type (sp_ends N) { nx := fun _ M' => Q .non M', rt := Q } (dstart N_ends_of_type ds) M := by
  rintro _ M Q ⟨t, T, b, rfl, o, hN, hT, hb, q⟩
  refine ⟨rfl, ?_⟩
  have lS : ∀ x : List Nat, x.length ≤ 100 → (S x).length ≤ sizeLine := fun x hx => small (by rw [S_len]; omega)
  cases t with
  | leaf s x =>
    obtain ⟨lx, _⟩ := lf_ok o
    refine ⟨_, rfl, _, _, rfl, ix0, ?_⟩
    cases s with
    | false =>
      refine ⟨_, rfl, decide (wd false = "text"), rfl, ?_⟩
      rw [decide_eq_true (by rfl)]
      refine ⟨_, rfl, _, rfl, _, _, rfl, ix1, lS x (by omega), ?_⟩
      refine ⟨_, rfl, _, rfl, _, rfl, _, rfl, _, rfl, lS T hT, ?_⟩
      rw [S_len, cut_mid T b x.length]
      refine ⟨_, rfl, _, _, rfl, ix1, decide (S ((T.drop b).take x.length) = S x), rfl, ?_⟩
      by_cases h : (T.drop b).take x.length = x
      · rw [decide_eq_true (congrArg S h)]
        refine ⟨_, rfl, small (by simp), newTr ?_⟩
        exact q [b + x.length] (by simp) (fun e => by simp only [List.mem_singleton, En]; exact ⟨fun z => ⟨z, h⟩, fun z => z.1⟩) M (SubM.refl M)
      · rw [decide_eq_false (fun z => h (S_inj z))]
        refine ⟨small (by simp), newTr ?_⟩
        exact q [] .nil (fun e => by simp only [List.not_mem_nil, En, false_iff]; exact fun z => h z.2) M (SubM.refl M)
    | true =>
      refine ⟨_, rfl, decide (wd true = "text"), rfl, ?_⟩
      rw [decide_eq_false (by decide)]
      refine ⟨_, rfl, decide (wd true = "sign"), rfl, ?_⟩
      rw [decide_eq_true (by rfl)]
      refine ⟨_, rfl, _, rfl, lS T hT, decide (((b : Nat) : Int) < (S T).length), rfl, ?_⟩
      rw [S_len]
      have no : (∀ c, T[b]? = some c → c ∉ x) → Q (.lst (Lst [])) M := fun h => q [] .nil (fun e => by simp only [List.not_mem_nil, En, false_iff]; exact fun ⟨_, c, h1, h2⟩ => h c h1 h2) M (SubM.refl M)
      by_cases h : b < T.length
      · rw [decide_eq_true (by omega)]
        have g : T[b]? = some T[b] := List.getElem?_eq_getElem h
        refine ⟨_, rfl, _, rfl, lS T hT, T[b], L2.atI_nat (by rw [S_list]; exact g), ?_⟩
        refine ⟨_, rfl, _, _, rfl, ix1, T[b], rfl, decide (T[b] ∈ (S x).cps.toList), rfl, ?_⟩
        rw [S_list]
        by_cases hm : T[b] ∈ x
        · rw [decide_eq_true hm]
          refine ⟨_, rfl, small (by simp), newTr ?_⟩
          exact q [b + 1] (by simp) (fun e => by simp only [List.mem_singleton, En]; exact ⟨fun z => ⟨z, _, g, hm⟩, fun z => z.1⟩) M (SubM.refl M)
        · rw [decide_eq_false hm]
          refine ⟨small (by simp), newTr (no fun c hc => ?_)⟩
          rw [g] at hc; cases hc; exact hm
      · rw [decide_eq_false (by omega)]
        refine ⟨small (by simp), newTr (no fun c hc => ?_)⟩
        rw [List.getElem?_eq_none (by omega)] at hc; cases hc
  | pair po u v =>
    simp only [Ty.ok, Bool.and_eq_true] at o
    simp only [Ty.hi] at hN
    refine ⟨_, rfl, _, _, rfl, ix0, ?_⟩
    cases po with
    | true =>
      refine ⟨_, rfl, decide (pw true = "text"), rfl, ?_⟩
      rw [decide_eq_false (by decide)]
      refine ⟨_, rfl, decide (pw true = "sign"), rfl, ?_⟩
      rw [decide_eq_false (by decide)]
      refine ⟨_, rfl, decide (pw true = "or"), rfl, ?_⟩
      rw [decide_eq_true (by rfl)]
      refine ⟨_, rfl, _, _, rfl, ix1, _, rfl, _, rfl, u, T, b, rfl, o.1, by omega, hT, hb, fun la pa ma => ?_⟩
      refine ⟨_, rfl, _, _, rfl, ix2, _, rfl, _, rfl, v, T, b, rfl, o.2, by omega, hT, hb, fun lb pb mb => ?_⟩
      have a1 := ends_le ma hb
      have b1 := ends_le mb hb
      have a2 := few (pw_nodup pa) a1
      have b2 := few (pw_nodup pb) b1
      refine ⟨_, _, rfl, rfl, small (by rw [lst_len, lst_len]; omega), newTr ⟨cs (la ++ lb), by rw [lst_cs, lst_app]; rfl, few_i (L := T.length) (fun x hx => (List.mem_append.mp hx).elim (a1 x) (b1 x)) hT, fun ms so mem => newTr ?_⟩⟩
      obtain ⟨l, rfl, pl, ml⟩ := set_sorted so mem
      rw [lst_cs]
      exact q l pl (fun e => by rw [ml, List.mem_append, ma, mb]; exact Iff.rfl) M (SubM.refl M)
    | false =>
      refine ⟨_, rfl, decide (pw false = "text"), rfl, ?_⟩
      rw [decide_eq_false (by decide)]
      refine ⟨_, rfl, decide (pw false = "sign"), rfl, ?_⟩
      rw [decide_eq_false (by decide)]
      refine ⟨_, rfl, decide (pw false = "or"), rfl, ?_⟩
      rw [decide_eq_false (by decide)]
      intro a1 h1
      refine ⟨_, rfl, small (by simp), ?_⟩
      intro a2 h2
      refine ⟨_, _, rfl, ?_⟩
      refine ⟨_, rfl, decide (pw false = "cat"), rfl, ?_⟩
      rw [decide_eq_true (by rfl)]
      have ne : a1 ≠ a2 := fun z => by rw [z, mu_same] at h2; cases h2
      have n2 : M a2 = none := by rw [mu_ne (Ne.symm ne)] at h2; exact h2
      refine ⟨_, rfl, _, _, rfl, ix1, _, rfl, _, rfl, u, T, b, rfl, o.1, by omega, hT, hb, fun la pa ma => ?_⟩
      have a1le := ends_le ma hb
      refine for_pre (fun n : Nat => D.int (n : Int)) la (fun pre ρ M' => ∃ fs x4 x7, ρ = [some (Ty.pair false u v).d, some (.str (S T)), some (.int (b : Nat)), some (.str "cat"), x4, some (.ref a1), some (.ref a2), x7, none] ∧
        M' a1 = some (.dic (KV fs)) ∧ SubM M M' ∧ fs.Nodup ∧ ∀ e, e ∈ fs ↔ ∃ m ∈ pre, En T v m e) (fun _ _ _ _ => trivial) ?_ ?_ la [] _ _ rfl ?_
      · rintro pre z suf eA ρ M' ⟨fs, x4, x7, rfl, hm, sub, nd, mem⟩ N hN'
        have zin : z ∈ la := by rw [← eA]; simp
        refine ⟨_, rfl, ⟨a1, _, rfl, hm⟩, ?_⟩
        refine ⟨_, rfl, _, _, rfl, ix2, _, rfl, _, rfl, v, T, z, rfl, o.2, by omega, hT, a1le z zin, fun lb pb mb => ?_⟩
        have b1 := ends_le mb (a1le z zin)
        have b2 := few (pw_nodup pb) b1
        show dcW (dgName 4) dYes (dSlot 4) (dC (.bl true)) (fun _ => True) _ _ (Lst lb) (KV []) M'
        refine dc_ints trivial (by simp [dwipe]) lb [] (by simpa using pw_nodup pb) (by simp; omega) ?_
        have f1 := few nd (L := T.length) fun x hx => by
          obtain ⟨m, hm1, hm2⟩ := (mem x).mp hx
          exact en_le hm2 (a1le m (by rw [← eA]; simp [hm1]))
        obtain ⟨fs', e1, nd', mem'⟩ := kv_merge lb fs nd
        refine ⟨a1, _, _, _, rfl, rfl, hm, small (by rw [kv_len, List.length_map, List.nil_append, kv_len]; omega), ?_⟩
        rw [List.nil_append, kv_zip, e1]
        refine hN' _ _ ⟨fs', _, _, rfl, mu_same, sub.mu h1 _, nd', fun e => ?_⟩
        rw [mem', mem, mb]
        constructor
        · rintro (⟨m, hm1, hm2⟩ | z1)
          · exact ⟨m, by simp [hm1], hm2⟩
          · exact ⟨z, by simp, z1⟩
        · rintro ⟨m, hm1, hm2⟩
          rcases List.mem_append.mp hm1 with z1 | z1
          · exact .inl ⟨m, z1, hm2⟩
          · rw [List.mem_singleton.mp z1] at hm2; exact .inr hm2
      · rintro ρ' M' ⟨fs, x4, x7, rfl, hm, sub, nd, mem⟩
        refine ⟨_, rfl, a1, _, cs fs, rfl, hm, kv_keys fs, fun ms pm so => newTr ?_⟩
        obtain ⟨l, rfl, pl, ml⟩ := once_sorted pm so nd
        rw [lst_cs]
        refine q l pl (fun e => ?_) M' sub
        rw [ml, mem]
        exact ⟨fun ⟨m, z1, z2⟩ => ⟨m, (ma m).mp z1, z2⟩, fun ⟨m, z1, z2⟩ => ⟨m, (ma m).mpr z1, z2⟩⟩
      · exact ⟨[], none, none, rfl, by rw [mu_ne ne, mu_same]; rfl, ((SubM.refl M).mu h1 _).mu n2 _, .nil, fun e => by simp⟩
  | star t =>
    simp only [Ty.hi] at hN
    refine ⟨_, rfl, _, _, rfl, ix0, ?_⟩
    refine ⟨_, rfl, decide (("star" : Str) = "text"), rfl, ?_⟩
    rw [decide_eq_false (by decide)]
    refine ⟨_, rfl, decide (("star" : Str) = "sign"), rfl, ?_⟩
    rw [decide_eq_false (by decide)]
    refine ⟨_, rfl, decide (("star" : Str) = "or"), rfl, ?_⟩
    rw [decide_eq_false (by decide)]
    intro a1 h1
    refine ⟨_, rfl, small (by simp), ?_⟩
    intro a2 h2
    refine ⟨_, _, rfl, ?_⟩
    refine ⟨_, rfl, decide (("star" : Str) = "cat"), rfl, ?_⟩
    rw [decide_eq_false (by decide)]
    have ne : a1 ≠ a2 := fun z => by rw [z, mu_same] at h2; cases h2
    have n2 : M a2 = none := by rw [mu_ne (Ne.symm ne)] at h2; exact h2
    have step : ∀ x y, En T t x y → x ≤ T.length → y ≤ T.length := fun x y h hx => en_le h hx
    let W : Nat → Rho → Mp → Prop := fun m ρ M' => ∃ fs ws x8, ρ = [some (Ty.star t).d, some (.str (S T)), some (.int (b : Nat)), some (.str "star"), none, some (.ref a1), some (.ref a2), none, x8] ∧
      M' a1 = some (.dic (KV fs)) ∧ M' a2 = some (.lst (Lst ws)) ∧ SubM M M' ∧ Walk (En T t) b T.length fs ws ∧ m = (T.length + 1 - fs.length) * (T.length + 3) + ws.length
    refine ⟨W, ⟨_, [], [b], none, rfl, by rw [mu_ne ne, mu_same]; rfl, mu_same, ((SubM.refl M).mu h1 _).mu n2 _, .new, rfl⟩, ?_⟩
    rintro m ρ M' ⟨fs, ws, x8, rfl, m1, m2, sub, wk, rfl⟩
    obtain ⟨fle, wle, flen⟩ := wk.le hb step
    have wlen := wk.len
    have big : (T.length + 1) * fs.length ≤ 101 * 101 := Nat.mul_le_mul (by omega) (by omega)
    obtain ⟨g1, g2⟩ := lst_gd (l := ws) fun x hx => Nat.le_trans (wle x hx) hT
    refine ⟨.ref a2, rfl, Nat.zero_le _, newTr (ne_nil m2 g1 g2 ?_)⟩
    refine ⟨_, rfl, ?_⟩
    rcases List.eq_nil_or_concat ws with rfl | ⟨ws', p, e0⟩
    · refine ⟨_, rfl, a1, _, cs fs, rfl, m1, kv_keys fs, fun ms pm so => newTr ?_⟩
      obtain ⟨l, rfl, pl, ml⟩ := once_sorted pm so wk.nd
      rw [lst_cs]
      exact q l pl (fun e => by rw [ml, wk.done]; exact Iff.rfl) M' sub
    · rw [List.concat_eq_append] at e0
      subst e0
      have hne : (Lst (ws' ++ [p])).isEmpty = false := by rw [lst_app]; simp [Lst]
      rw [hne]
      refine ⟨fun ρ' M2 => ∃ m', m' < _ ∧ W m' ρ' M2, fun ρ' M' h => h, ?_⟩
      have e1 : Lst (ws' ++ [p]) = Lst ws' ++ [.int (p : Int)] := by rw [lst_app]; rfl
      rw [e1] at m2
      refine ⟨.ref a2, rfl, by show (mol (M' a2)).isSome = true; rw [m2]; rfl, a2, _, .int (p : Int), rfl, rfl, m2, by simp, ?_⟩
      rw [List.dropLast_concat]
      have sub2 : SubM M (mu M' a2 (.lst (Lst ws'))) := sub.mu n2 _
      have m1' : mu M' a2 (.lst (Lst ws')) a1 = some (.dic (KV fs)) := by rw [mu_ne ne]; exact m1
      refine ⟨_, rfl, _, rfl, a1, _, _, rfl, rfl, m1', _, rfl, ?_⟩
      rw [if_pos rfl, kv_val]
      have pl : p ≤ T.length := wle p (by simp)
      by_cases hp : p ∈ fs
      · rw [decide_eq_true hp]
        refine ⟨_, ?_, fs, ws', _, rfl, m1', mu_same, sub2, wk.popIn hp, rfl⟩
        simp
      · rw [decide_eq_false hp]
        refine ⟨_, rfl, _, rfl, a1, _, _, rfl, rfl, m1', Nat.lt_of_lt_of_le (by rw [kv_len]; omega : _ < 100000) (small (Nat.le_refl _)), ?_⟩
        rw [kv_put, if_neg hp]
        have m2' : mu (mu M' a2 (.lst (Lst ws'))) a1 (.dic (KV (fs ++ [p]))) a2 = some (.lst (Lst ws')) := by rw [mu_ne (Ne.symm ne), mu_same]
        refine ⟨_, rfl, by show (mol (mu _ a1 _ a2)).isSome = true; rw [m2']; rfl, ?_⟩
        refine ⟨_, rfl, _, _, rfl, ix1, _, rfl, _, rfl, t, T, p, rfl, o, by omega, hT, pl, fun l pl' ml => ?_⟩
        have l2 := few (pw_nodup pl') (ends_le ml pl)
        have wk2 := wk.popNew hp ml l2
        have fl2 := (wk2.le hb step).2.2
        simp only [List.length_append, List.length_cons, List.length_nil] at fl2 wlen
        refine ⟨a2, _, _, _, rfl, rfl, m2', rfl, small (by rw [lst_len, lst_len]; omega), ?_⟩
        rw [← lst_app]
        refine ⟨_, ?_, fs ++ [p], ws' ++ l, _, rfl, by rw [mu_ne ne, mu_same], mu_same, (sub2.mu h1 _).mu n2 _, wk2, rfl⟩
        obtain ⟨A, hA⟩ : ∃ A, T.length + 1 - fs.length = A + 1 := ⟨T.length - fs.length, by omega⟩
        have hB : T.length + 1 - (fs ++ [p]).length = A := by simp; omega
        rw [hA, hB, Nat.add_mul]
        simp only [List.length_append, List.length_cons, List.length_nil]
        omega
end K27

set_option maxHeartbeats 4000000
/-! K27e: the ends, by the law. -/
namespace K27
open PySem PySem.Spec DL KB
open L2 (atI ixN)
open PyProof.Rows hiding St signs

theorem rd_lends (N : Nat) : ∀ ds M Q, sp_ends1 (N + 1) ds M Q → ds.length = 3 ∧ r__law_ends (sp_ends N) { nx := fun _ M' => Q .non M', rt := Q } (dstart N__law_ends ds) M := by
  rintro _ M Q ⟨t, T, b, rfl, o, hN, hT, hb, q⟩
  refine ⟨rfl, ?_⟩
  have lS : ∀ x : List Nat, x.length ≤ 100 → (S x).length ≤ sizeLine := fun x hx => small (by rw [S_len]; omega)
  cases t with
  | leaf s x =>
    obtain ⟨lx, _⟩ := lf_ok o
    refine ⟨_, rfl, _, _, rfl, ix0, ?_⟩
    cases s with
    | false =>
      refine ⟨_, rfl, decide (wd false = "text"), rfl, ?_⟩
      rw [decide_eq_true (by rfl)]
      refine ⟨_, rfl, _, rfl, _, _, rfl, ix1, lS x (by omega), ?_⟩
      refine ⟨_, rfl, _, rfl, _, rfl, _, rfl, _, rfl, lS T hT, ?_⟩
      rw [S_len, cut_mid T b x.length]
      refine ⟨_, rfl, _, _, rfl, ix1, decide (S ((T.drop b).take x.length) = S x), rfl, ?_⟩
      by_cases h : (T.drop b).take x.length = x
      · rw [decide_eq_true (congrArg S h)]
        refine ⟨_, rfl, small (by simp), newTr ?_⟩
        exact q [b + x.length] (by simp) (fun e => by simp only [List.mem_singleton, En]; exact ⟨fun z => ⟨z, h⟩, fun z => z.1⟩) M (SubM.refl M)
      · rw [decide_eq_false (fun z => h (S_inj z))]
        refine ⟨small (by simp), newTr ?_⟩
        exact q [] .nil (fun e => by simp only [List.not_mem_nil, En, false_iff]; exact fun z => h z.2) M (SubM.refl M)
    | true =>
      refine ⟨_, rfl, decide (wd true = "text"), rfl, ?_⟩
      rw [decide_eq_false (by decide)]
      refine ⟨_, rfl, decide (wd true = "sign"), rfl, ?_⟩
      rw [decide_eq_true (by rfl)]
      refine ⟨_, rfl, _, rfl, lS T hT, decide (((b : Nat) : Int) < (S T).length), rfl, ?_⟩
      rw [S_len]
      have no : (∀ c, T[b]? = some c → c ∉ x) → Q (.lst (Lst [])) M := fun h => q [] .nil (fun e => by simp only [List.not_mem_nil, En, false_iff]; exact fun ⟨_, c, h1, h2⟩ => h c h1 h2) M (SubM.refl M)
      by_cases h : b < T.length
      · rw [decide_eq_true (by omega)]
        have g : T[b]? = some T[b] := List.getElem?_eq_getElem h
        refine ⟨_, rfl, _, rfl, lS T hT, T[b], L2.atI_nat (by rw [S_list]; exact g), ?_⟩
        refine ⟨_, rfl, _, _, rfl, ix1, T[b], rfl, decide (T[b] ∈ (S x).cps.toList), rfl, ?_⟩
        rw [S_list]
        by_cases hm : T[b] ∈ x
        · rw [decide_eq_true hm]
          refine ⟨_, rfl, small (by simp), newTr ?_⟩
          exact q [b + 1] (by simp) (fun e => by simp only [List.mem_singleton, En]; exact ⟨fun z => ⟨z, _, g, hm⟩, fun z => z.1⟩) M (SubM.refl M)
        · rw [decide_eq_false hm]
          refine ⟨small (by simp), newTr (no fun c hc => ?_)⟩
          rw [g] at hc; cases hc; exact hm
      · rw [decide_eq_false (by omega)]
        refine ⟨small (by simp), newTr (no fun c hc => ?_)⟩
        rw [List.getElem?_eq_none (by omega)] at hc; cases hc
  | pair po u v =>
    simp only [Ty.ok, Bool.and_eq_true] at o
    simp only [Ty.hi] at hN
    refine ⟨_, rfl, _, _, rfl, ix0, ?_⟩
    cases po with
    | true =>
      refine ⟨_, rfl, decide (pw true = "text"), rfl, ?_⟩
      rw [decide_eq_false (by decide)]
      refine ⟨_, rfl, decide (pw true = "sign"), rfl, ?_⟩
      rw [decide_eq_false (by decide)]
      refine ⟨_, rfl, decide (pw true = "or"), rfl, ?_⟩
      rw [decide_eq_true (by rfl)]
      refine ⟨_, rfl, _, _, rfl, ix1, _, rfl, _, rfl, u, T, b, rfl, o.1, by omega, hT, hb, fun la pa ma => ?_⟩
      refine ⟨_, rfl, _, _, rfl, ix2, _, rfl, _, rfl, v, T, b, rfl, o.2, by omega, hT, hb, fun lb pb mb => ?_⟩
      have a1 := ends_le ma hb
      have b1 := ends_le mb hb
      have a2 := few (pw_nodup pa) a1
      have b2 := few (pw_nodup pb) b1
      refine ⟨_, _, rfl, rfl, small (by rw [lst_len, lst_len]; omega), newTr ⟨cs (la ++ lb), by rw [lst_cs, lst_app]; rfl, few_i (L := T.length) (fun x hx => (List.mem_append.mp hx).elim (a1 x) (b1 x)) hT, fun ms so mem => newTr ?_⟩⟩
      obtain ⟨l, rfl, pl, ml⟩ := set_sorted so mem
      rw [lst_cs]
      exact q l pl (fun e => by rw [ml, List.mem_append, ma, mb]; exact Iff.rfl) M (SubM.refl M)
    | false =>
      refine ⟨_, rfl, decide (pw false = "text"), rfl, ?_⟩
      rw [decide_eq_false (by decide)]
      refine ⟨_, rfl, decide (pw false = "sign"), rfl, ?_⟩
      rw [decide_eq_false (by decide)]
      refine ⟨_, rfl, decide (pw false = "or"), rfl, ?_⟩
      rw [decide_eq_false (by decide)]
      refine ⟨small (by simp), ?_⟩
      intro a1 h1
      refine ⟨_, rfl, small (by simp), ?_⟩
      intro a2 h2
      refine ⟨_, _, rfl, ?_⟩
      refine ⟨_, rfl, decide (pw false = "cat"), rfl, ?_⟩
      rw [decide_eq_true (by rfl)]
      have ne : a1 ≠ a2 := fun z => by rw [z, mu_same] at h2; cases h2
      have n2 : M a2 = none := by rw [mu_ne (Ne.symm ne)] at h2; exact h2
      refine ⟨_, rfl, _, _, rfl, ix1, _, rfl, _, rfl, u, T, b, rfl, o.1, by omega, hT, hb, fun la pa ma => ?_⟩
      have a1le := ends_le ma hb
      have a1len := few (pw_nodup pa) a1le
      refine for_pre (fun n : Nat => D.int (n : Int)) la (fun pre ρ M' => ∃ fs x4 x7, ρ = [some (Ty.pair false u v).d, some (.str (S T)), some (.int (b : Nat)), some (.str "cat"), x4, some (.ref a1), some (.ref a2), x7, none] ∧
        M' a1 = some (.lst (Lst fs)) ∧ SubM M M' ∧ fs.length ≤ 101 * pre.length ∧ ∀ e, e ∈ fs ↔ ∃ m ∈ pre, En T v m e) (fun _ _ _ _ => trivial) ?_ ?_ la [] _ _ rfl ?_
      · rintro pre z suf eA ρ M' ⟨fs, x4, x7, rfl, hm, sub, nd, mem⟩ N hN'
        have zin : z ∈ la := by rw [← eA]; simp
        have prl : pre.length + 1 ≤ la.length := by rw [← eA]; simp
        refine ⟨_, rfl, by show (mol (M' a1)).isSome = true; rw [hm]; rfl, ?_⟩
        refine ⟨_, rfl, _, _, rfl, ix2, _, rfl, _, rfl, v, T, z, rfl, o.2, by omega, hT, a1le z zin, fun lb pb mb => ?_⟩
        have b1 := ends_le mb (a1le z zin)
        have b2 := few (pw_nodup pb) b1
        refine ⟨a1, _, _, _, rfl, rfl, hm, rfl, small (by rw [lst_len, lst_len]; omega), ?_⟩
        rw [← lst_app]
        refine hN' _ _ ⟨fs ++ lb, _, _, rfl, mu_same, sub.mu h1 _, by simp; omega, fun e => ?_⟩
        rw [List.mem_append, mem, mb]
        constructor
        · rintro (⟨m, hm1, hm2⟩ | z1)
          · exact ⟨m, by simp [hm1], hm2⟩
          · exact ⟨z, by simp, z1⟩
        · rintro ⟨m, hm1, hm2⟩
          rcases List.mem_append.mp hm1 with z1 | z1
          · exact .inl ⟨m, z1, hm2⟩
          · rw [List.mem_singleton.mp z1] at hm2; exact .inr hm2
      · rintro ρ' M' ⟨fs, x4, x7, rfl, hm, sub, nd, mem⟩
        refine ⟨_, rfl, cs fs, by rw [lst_cs]; show mol (M' a1) = _; rw [hm]; rfl, few_i (L := T.length) (fun x hx => by
          obtain ⟨m, hm1, hm2⟩ := (mem x).mp hx
          exact en_le hm2 (a1le m hm1)) hT, fun ms so mm => newTr ?_⟩
        obtain ⟨l, rfl, pl, ml⟩ := set_sorted so mm
        rw [lst_cs]
        refine q l pl (fun e => ?_) M' sub
        rw [ml, mem]
        exact ⟨fun ⟨m, z1, z2⟩ => ⟨m, (ma m).mp z1, z2⟩, fun ⟨m, z1, z2⟩ => ⟨m, (ma m).mpr z1, z2⟩⟩
      · exact ⟨[], none, none, rfl, by rw [mu_ne ne, mu_same]; rfl, ((SubM.refl M).mu h1 _).mu n2 _, by simp, fun e => by simp⟩
  | star t =>
    simp only [Ty.hi] at hN
    refine ⟨_, rfl, _, _, rfl, ix0, ?_⟩
    refine ⟨_, rfl, decide (("star" : Str) = "text"), rfl, ?_⟩
    rw [decide_eq_false (by decide)]
    refine ⟨_, rfl, decide (("star" : Str) = "sign"), rfl, ?_⟩
    rw [decide_eq_false (by decide)]
    refine ⟨_, rfl, decide (("star" : Str) = "or"), rfl, ?_⟩
    rw [decide_eq_false (by decide)]
    refine ⟨small (by simp), ?_⟩
    intro a1 h1
    refine ⟨_, rfl, small (by simp), ?_⟩
    intro a2 h2
    refine ⟨_, _, rfl, ?_⟩
    refine ⟨_, rfl, decide (("star" : Str) = "cat"), rfl, ?_⟩
    rw [decide_eq_false (by decide)]
    have ne : a1 ≠ a2 := fun z => by rw [z, mu_same] at h2; cases h2
    have n2 : M a2 = none := by rw [mu_ne (Ne.symm ne)] at h2; exact h2
    have step : ∀ x y, En T t x y → x ≤ T.length → y ≤ T.length := fun x y h hx => en_le h hx
    let W : Nat → Rho → Mp → Prop := fun m ρ M' => ∃ fs ws x8, ρ = [some (Ty.star t).d, some (.str (S T)), some (.int (b : Nat)), some (.str "star"), none, some (.ref a1), some (.ref a2), none, x8] ∧
      M' a1 = some (.lst (Lst fs)) ∧ M' a2 = some (.lst (Lst ws)) ∧ SubM M M' ∧ Walk (En T t) b T.length fs ws ∧ m = (T.length + 1 - fs.length) * (T.length + 3) + ws.length
    refine ⟨W, ⟨_, [], [b], none, rfl, by rw [mu_ne ne, mu_same]; rfl, mu_same, ((SubM.refl M).mu h1 _).mu n2 _, .new, rfl⟩, ?_⟩
    rintro m ρ M' ⟨fs, ws, x8, rfl, m1, m2, sub, wk, rfl⟩
    obtain ⟨fle, wle, flen⟩ := wk.le hb step
    have wlen := wk.len
    have big : (T.length + 1) * fs.length ≤ 101 * 101 := Nat.mul_le_mul (by omega) (by omega)
    obtain ⟨g1, g2⟩ := lst_gd (l := ws) fun x hx => Nat.le_trans (wle x hx) hT
    refine ⟨.ref a2, rfl, Nat.zero_le _, newTr (ne_nil m2 g1 g2 ?_)⟩
    refine ⟨_, rfl, ?_⟩
    rcases List.eq_nil_or_concat ws with rfl | ⟨ws', p, e0⟩
    · refine ⟨_, rfl, .ref a1, cs fs, rfl, by rw [lst_cs]; show mol (M' a1) = _; rw [m1]; rfl, fun ms pm so => newTr ?_⟩
      obtain ⟨l, rfl, pl, ml⟩ := once_sorted pm so wk.nd
      rw [lst_cs]
      exact q l pl (fun e => by rw [ml, wk.done]; exact Iff.rfl) M' sub
    · rw [List.concat_eq_append] at e0
      subst e0
      have hne : (Lst (ws' ++ [p])).isEmpty = false := by rw [lst_app]; simp [Lst]
      rw [hne]
      refine ⟨fun ρ' M2 => ∃ m', m' < _ ∧ W m' ρ' M2, fun ρ' M' h => h, ?_⟩
      have e1 : Lst (ws' ++ [p]) = Lst ws' ++ [.int (p : Int)] := by rw [lst_app]; rfl
      rw [e1] at m2
      refine ⟨.ref a2, rfl, by show (mol (M' a2)).isSome = true; rw [m2]; rfl, a2, _, .int (p : Int), rfl, rfl, m2, by simp, ?_⟩
      rw [List.dropLast_concat]
      have sub2 : SubM M (mu M' a2 (.lst (Lst ws'))) := sub.mu n2 _
      have m1' : mu M' a2 (.lst (Lst ws')) a1 = some (.lst (Lst fs)) := by rw [mu_ne ne]; exact m1
      refine ⟨_, rfl, _, rfl, in_lst (l := fs) (by show mol (mu _ a2 _ a1) = _; rw [m1']; rfl) (fun y z => by cases z) ⟨_, rfl, ?_⟩⟩
      rw [if_pos rfl]
      have pl : p ≤ T.length := wle p (by simp)
      by_cases hp : p ∈ fs
      · rw [decide_eq_true hp]
        refine ⟨_, ?_, fs, ws', _, rfl, m1', mu_same, sub2, wk.popIn hp, rfl⟩
        simp
      · rw [decide_eq_false hp]
        refine ⟨_, rfl, by show (mol (mu _ a2 _ a1)).isSome = true; rw [m1']; rfl, _, rfl, a1, _, _, rfl, rfl, m1', Nat.lt_of_lt_of_le (by rw [lst_len]; omega : _ < 100000) (small (Nat.le_refl _)), ?_⟩
        have e2 : Lst fs ++ [.int (p : Int)] = Lst (fs ++ [p]) := by rw [lst_app]; rfl
        rw [e2]
        have m2' : mu (mu M' a2 (.lst (Lst ws'))) a1 (.lst (Lst (fs ++ [p]))) a2 = some (.lst (Lst ws')) := by rw [mu_ne (Ne.symm ne), mu_same]
        refine ⟨_, rfl, by show (mol (mu _ a1 _ a2)).isSome = true; rw [m2']; rfl, ?_⟩
        refine ⟨_, rfl, _, _, rfl, ix1, _, rfl, _, rfl, t, T, p, rfl, o, by omega, hT, pl, fun l pl' ml => ?_⟩
        have l2 := few (pw_nodup pl') (ends_le ml pl)
        have wk2 := wk.popNew hp ml l2
        have fl2 := (wk2.le hb step).2.2
        simp only [List.length_append, List.length_cons, List.length_nil] at fl2 wlen
        refine ⟨a2, _, _, _, rfl, rfl, m2', rfl, small (by rw [lst_len, lst_len]; omega), ?_⟩
        rw [← lst_app]
        refine ⟨_, ?_, fs ++ [p], ws' ++ l, _, rfl, by rw [mu_ne ne, mu_same], mu_same, (sub2.mu h1 _).mu n2 _, wk2, rfl⟩
        obtain ⟨A, hA⟩ : ∃ A, T.length + 1 - fs.length = A + 1 := ⟨T.length - fs.length, by omega⟩
        have hB : T.length + 1 - (fs ++ [p]).length = A := by simp; omega
        rw [hA, hB, Nat.add_mul]
        simp only [List.length_append, List.length_cons, List.length_nil]
        omega

open Classical in
noncomputable def hasB (t : Ty) (T : List Nat) : Bool := decide (En T t 0 T.length)
def sp_has : DS1 := fun ds M Q => ∃ (t : Ty) (T : List Nat), ds = [t.d, .str (S T)] ∧ t.ok = true ∧ t.hi < 32 ∧ T.length ≤ 100 ∧ Q (.bl (hasB t T)) M
open Classical in
theorem has_in {t : Ty} {T l : List Nat} (h : ∀ e, e ∈ l ↔ En T t 0 e) : decide (T.length ∈ l) = hasB t T := by
  unfold hasB
  by_cases z : T.length ∈ l
  · rw [decide_eq_true z, decide_eq_true ((h _).mp z)]
  · rw [decide_eq_false z, decide_eq_false fun y => z ((h _).mpr y)]
theorem rd_has : ∀ ds M Q, sp_has ds M Q → ds.length = 2 ∧ r__law_has (sp_ends 32) { nx := fun _ M' => Q .non M', rt := Q } (dstart N__law_has ds) M := by
  rintro _ M Q ⟨t, T, rfl, o, hi, hT, q⟩
  refine ⟨rfl, ?_⟩
  refine ⟨_, rfl, small (by rw [S_len]; omega), ?_⟩
  rw [S_len]
  refine ⟨_, rfl, _, rfl, t, T, 0, rfl, o, hi, hT, Nat.zero_le _, fun l pl ml => ?_⟩
  refine in_lst (l := l) rfl (fun y z => by cases z) ?_
  rw [if_neg (by decide), has_in ml]
  exact q
end K27

set_option maxHeartbeats 4000000
/-! K27f: a type, by the law. -/
namespace K27
open PySem PySem.Spec DL KB
open L2 (atI ixN)
open PyProof.Rows hiding St signs
theorem sg_eq (x : Str) : PyProof.Rows.signs x = x.cps.toList.map sg := rfl
theorem sign_same (x : Str) {ys : List Str} (nd : ys.Nodup) (mem : ∀ k, k ∈ ys ↔ k ∈ PyProof.Rows.signs x) (so : sortedS ys = true) : decide (Txt.join (Str.ofString "") ys = x) = asc x.cps.toList := by
  obtain ⟨ms, rfl⟩ := sgs_of (ys := ys) fun y hy => by
    have := (mem y).mp hy
    rw [sg_eq] at this
    obtain ⟨c, _, e⟩ := List.mem_map.mp this
    exact ⟨c, e.symm⟩
  have nd2 : ms.Nodup := by
    clear mem so
    induction ms with
    | nil => exact .nil
    | cons a r ih =>
      obtain ⟨n1, n2⟩ := List.nodup_cons.mp nd
      exact List.nodup_cons.mpr ⟨fun h => n1 (List.mem_map.mpr ⟨a, h, rfl⟩), ih n2⟩
  have a1 := sorted_asc so nd2
  have mem2 : ∀ k, k ∈ ms ↔ k ∈ x.cps.toList := fun k => by
    have q := mem (sg k)
    rw [sg_eq] at q
    constructor
    · intro h
      obtain ⟨c, hc, e⟩ := List.mem_map.mp (q.mp (List.mem_map.mpr ⟨k, h, rfl⟩))
      rw [← sg_inj e]; exact hc
    · intro h
      obtain ⟨c, hc, e⟩ := List.mem_map.mp (q.mpr (List.mem_map.mpr ⟨k, h, rfl⟩))
      rw [← sg_inj e]; exact hc
  rw [gl_sg]
  by_cases h : asc x.cps.toList = true
  · rw [h, pw_uniq (asc_pw a1) (asc_pw h) mem2]
    simp
  · rw [Bool.eq_false_iff.mpr h]
    refine decide_eq_false fun e => h ?_
    have : x.cps.toList = ms := by rw [← e]
    rw [this]; exact a1
def textA (v : DL.D) : Bool := match v with
  | .str x => x.cps.toList.all okSign
  | _ => false
theorem le44 {x : Str} (h : textA (.str x) = true) {ks : List Str} (nd : ks.Nodup) (sub : ∀ k ∈ ks, k ∈ PyProof.Rows.signs x) : ks.length ≤ 44 := by
  have h' : ∀ k ∈ ks, k ∈ SIG.cps.toList.map sg := by
    intro k hk
    have := sub k hk
    rw [sg_eq] at this
    obtain ⟨c, hc, rfl⟩ := List.mem_map.mp this
    have hs : okSign c = true := List.all_eq_true.mp h c hc
    exact List.mem_map.mpr ⟨c, of_decide_eq_true hs, rfl⟩
  have l : ks.length ≤ (SIG.cps.toList.map sg).length := nodup_len nd h'
  have : (SIG.cps.toList.map sg).length = 44 := by rw [List.length_map]; decide +kernel
  omega
theorem few_sig {x : Str} (h : textA (.str x) = true) : Few (PyProof.Rows.signs x) := fun ks nd sub => by
  have := le44 h nd sub
  omega
theorem map_sg_nodup : ∀ {ms : List Nat}, ms.Nodup → (ms.map sg).Nodup
  | [], _ => .nil
  | m :: ms, h => by
    obtain ⟨n1, n2⟩ := List.nodup_cons.mp h
    refine List.nodup_cons.mpr ⟨fun z => ?_, map_sg_nodup n2⟩
    obtain ⟨c, hc, e⟩ := List.mem_map.mp z
    exact n1 (sg_inj e ▸ hc)
theorem asc_short {x : Str} (h : textA (.str x) = true) (a : asc x.cps.toList = true) : x.cps.size ≤ 44 := by
  have nd : x.cps.toList.Nodup := (asc_pw a).imp fun h => Nat.ne_of_lt h
  have := le44 h (map_sg_nodup nd) fun k hk => by rw [sg_eq]; exact hk
  rw [List.length_map, Array.length_toList] at this
  exact this

/-- all of its signs are signs -/
theorem all_signs {t : DTE} {ρ : Rho} {M : Mp} {Q : DK} {x : Str} {i : Nat} (hi : i < ρ.length) (sz : x.cps.size ≤ 100000) (ht : ∀ Q' : DK, Q' (.str x) M → t ρ M Q') (q : Q (.bl (x.cps.toList.all okSign)) M) :
    dCB rAllD (dCons (dLc true (dIt t) (dgName i) dYes (dOp (DL.rInD false) (dSlot i) (dC (.str SIG))) [i]) dNil) ρ M Q := by
  refine ht _ ?_
  refine lc_map (fun d => match d with | .str s => .bl (s.cps.toList.all okSign) | _ => .non) (by exact trivial) _ [] ?_ (by unfold DL.signs; simpa using small sz) ?_
  · intro d hd K1 K2 hk
    obtain ⟨c, hc, rfl⟩ := List.mem_map.mp hd
    have at1 : ((dwipe ρ [i]).set i (some (DL.D.str ⟨#[c]⟩)))[i]? = some (some (.str ⟨#[c]⟩)) := by
      rw [List.getElem?_set_self (by unfold dwipe dwipe; rw [List.length_set]; exact hi)]
    refine ⟨_, at1, c, rfl, ?_⟩
    simpa [okSign] using hk
  · refine ⟨_, x.cps.toList.map okSign, rfl, ?_, ?_⟩
    · show some _ = some _
      unfold DL.signs
      rw [List.nil_append, List.map_map, List.map_map]
      refine congrArg some (List.map_congr_left fun c _ => ?_)
      simp
    · rw [List.all_map]; exact q
theorem rd_ltext : ∀ ds M Q, sp_text ds M Q → ds.length = 2 ∧ r__law_is_text { nx := fun _ M' => Q .non M', rt := Q } (dstart N__law_is_text ds) M := by
  rintro _ M Q ⟨v, most, rfl, pv, q⟩
  refine ⟨rfl, ?_⟩
  cases v
  case str x =>
    have sz : x.cps.size ≤ 100000 := by simpa [KB.plain] using pv
    refine ⟨_, rfl, _, rfl, true, rfl, ?_⟩
    refine ⟨_, rfl, small sz, _, rfl, _, _, rfl, rfl, trivial, _, rfl, ?_⟩
    by_cases h : (x.length : Int) ≤ most
    · have e : textB (.str x) most = x.cps.toList.all okSign := by simp [textB, h]
      rw [e] at q
      rw [decide_eq_false (by omega)]
      show dCB rAllD (dCons (dLc true (dIt (dSlot 0)) (dgName 2) dYes (dOp (DL.rInD false) (dSlot 2) (dC (.str SIG))) [2]) dNil) (dstart N__law_is_text [.str x, .int most]) M _
      exact all_signs (by exact (by decide : 2 < 3)) sz (fun Q' h => ⟨_, rfl, h⟩) q
    · have e : textB (.str x) most = false := by simp [textB, h]
      rw [e] at q
      rw [decide_eq_true (by omega)]
      exact q
  case ref a => simp [KB.plain] at pv
  case exc a b => simp [KB.plain] at pv
  all_goals exact ⟨_, rfl, _, rfl, false, rfl, q⟩
/-- the nodes, as the law counts them: 0, if one is bad -/
def sizeT : Nat → DL.D → Nat
  | 0, _ => 0
  | n + 1, v => if nodeB v = true then (if 0 ∈ (partsB v).map (sizeT n) then 0 else 1 + ((partsB v).map (sizeT n)).sum) else 0
theorem sum_eq {f g : DL.D → Nat} : ∀ {l : List DL.D}, (∀ x ∈ l, (f x = 0 → 1000 ≤ g x) ∧ (f x ≠ 0 → g x = f x)) → (0 ∈ l.map f → 1000 ≤ (l.map g).sum) ∧ (0 ∉ l.map f → (l.map g).sum = (l.map f).sum)
  | [], _ => ⟨fun h => (nomatch h), fun _ => rfl⟩
  | x :: l, h => by
    obtain ⟨h1, h2⟩ := sum_eq (f := f) (g := g) (l := l) fun y hy => h y (List.mem_cons_of_mem _ hy)
    obtain ⟨k1, k2⟩ := h x List.mem_cons_self
    simp only [List.map_cons, List.sum_cons, List.mem_cons, not_or]
    refine ⟨fun z => ?_, fun z => ?_⟩
    · rcases z with z | z
      · have := k1 z.symm; omega
      · have := h1 z; omega
    · rw [k2 (Ne.symm z.1), h2 z.2]
theorem size_count : ∀ (n : Nat) (v : DL.D), (sizeT n v = 0 → 1000 ≤ countT n v) ∧ (sizeT n v ≠ 0 → countT n v = sizeT n v)
  | 0, v => ⟨fun _ => Nat.le_refl _, fun h => absurd rfl h⟩
  | n + 1, v => by
    unfold sizeT countT
    cases hb : nodeB v with
    | false => exact ⟨fun _ => Nat.le_refl _, fun h => absurd rfl h⟩
    | true =>
      rw [if_pos rfl, if_pos rfl]
      obtain ⟨h1, h2⟩ := sum_eq (f := sizeT n) (g := countT n) (l := partsB v) fun x _ => size_count n x
      by_cases z : 0 ∈ (partsB v).map (sizeT n)
      · rw [if_pos z]
        exact ⟨fun _ => by have := h1 z; omega, fun h => absurd rfl h⟩
      · rw [if_neg z]
        exact ⟨fun h => by omega, fun _ => by rw [h2 z]⟩
theorem size_ty (v : DL.D) : (decide (0 < sizeT 30 v) && decide (sizeT 30 v < 121)) = decide (countT 30 v ≤ 120) := by
  obtain ⟨h1, h2⟩ := size_count 30 v
  by_cases z : sizeT 30 v = 0
  · have := h1 z
    rw [z, decide_eq_false (by omega : ¬ countT 30 v ≤ 120)]
    rfl
  · rw [h2 z, decide_eq_true (by omega : 0 < sizeT 30 v), Bool.true_and]
    exact decide_eq_decide.mpr (by omega)
def sp_tsize (N : Nat) : DS1 := fun ds M Q => ∃ v n, ds = [v, .int (n : Nat)] ∧ n < N ∧ gd v = true ∧ Q (.int (sizeT n v : Nat)) M
/-- sizes of parts: 0 if one is bad, else their sum and one -/
theorem tail_sizes {sp : DS1} {i j n : Nat} {ρ : Rho} {M : Mp} {D : DEnds} {y : DL.D} {r : List DL.D} (f : DL.D → Nat) (ij : i ≠ j) (i1 : 1 < i) (j1 : 1 < j) (il : i < ρ.length) (jl : j < ρ.length)
    (h0 : ρ[0]? = some (some (.tup (y :: r)))) (h1 : ρ[1]? = some (some (.int ((n + 1 : Nat) : Int)))) (hr : r.length ≤ 100000) (hsp : ∀ x ∈ r, ∀ Q' : DK, Q' (.int (f x : Nat)) M → sp [x, .int (n : Nat)] M Q')
    (q : D.rt (.int ((if 0 ∈ r.map f then 0 else 1 + (r.map f).sum : Nat) : Nat)) M) :
    (dSeq (dAsg (dLc true (dIt (dSl true (dSlot 0) (dPart (dC (.int 1))) dNoPart)) (dgName j) dYes (dCall1 sp (dCons (dSlot j) (dCons (dOp (rInt (fun _ _ => True) fun i j => .int (i - j)) (dSlot 1) (dC (.int 1))) dNil))) [j]) (dgName i))
      (dRet (dIf (dB (dOp (DL.rInD false) (dC (.int 0)) (dSlot i))) (dC (.int 0)) (dOp (rAddD true) (dC (.int 1)) (dCB rSumD (dCons (dSlot i) dNil)))))) D ρ M := by
  refine ⟨_, h0, 1, rfl, ?_⟩
  show lcW (dgName j) dYes _ _ _ _ (DL.cutD (y :: r) (some 1) none) [] M
  rw [cut1, List.tail_cons]
  refine lc_map (fun d => .int (f d : Nat)) (by exact trivial) _ [] ?_ (small (by simp; omega)) ?_
  · intro x hx K1 K2 hk
    have at1 : ((dwipe ρ [j]).set j (some x))[j]? = some (some x) := by rw [List.getElem?_set_self (by unfold dwipe dwipe; rw [List.length_set]; exact jl)]
    have at2 : ((dwipe ρ [j]).set j (some x))[1]? = some (some (.int ((n + 1 : Nat) : Int))) := by
      rw [List.getElem?_set_ne (by omega)]
      unfold dwipe dwipe
      rw [List.getElem?_set_ne (by omega)]
      exact h1
    refine ⟨_, at1, _, at2, _, _, rfl, rfl, trivial, ?_⟩
    have e : (((n + 1 : Nat) : Int) - 1) = (n : Int) := by omega
    show sp [x, .int (((n + 1 : Nat) : Int) - 1)] M K1
    rw [e]
    exact hsp x hx _ hk
  · rw [List.nil_append]
    have e : r.map (fun d => DL.D.int (f d : Nat)) = Lst (r.map f) := by unfold Lst; rw [List.map_map]; rfl
    rw [e]
    have at1 : (ρ.set i (some (DL.D.lst (Lst (r.map f)))))[i]? = some (some (.lst (Lst (r.map f)))) := by rw [List.getElem?_set_self il]
    refine newTr ?_
    show (dB (dOp (DL.rInD false) (dC (.int 0)) (dSlot i))) _ _ _
    refine ⟨_, at1, in_lst (p := 0) (l := r.map f) rfl (fun y z => by cases z) ⟨_, rfl, ?_⟩⟩
    rw [if_neg (by decide)]
    by_cases z : 0 ∈ r.map f
    · rw [decide_eq_true z]
      rw [if_pos z] at q
      exact q
    · rw [decide_eq_false z]
      rw [if_neg z] at q
      show (dOp (rAddD true) (dC (.int 1)) (dCB rSumD (dCons (dSlot i) dNil))) _ _ _
      refine ⟨_, at1, _, cs (r.map f), rfl, by rw [lst_cs]; rfl, ?_⟩
      show D.rt (.int (1 + (cs (r.map f)).sum)) M
      have : (cs (r.map f)).sum = ((r.map f).sum : Nat) := nat_sum _
      rw [this]
      have e : (1 : Int) + ((r.map f).sum : Nat) = ((1 + (r.map f).sum : Nat) : Int) := by omega
      rw [e]
      exact q
theorem eq_strs {xs ys : List Str} (gx : ∀ x ∈ xs, gd (.str x) = true) (gy : ∀ x ∈ ys, gd (.str x) = true) {M : Mp} {Q : DK} (q : Q (.bl (decide (xs = ys))) M) : rEqD2 false (.lst (xs.map D.str)) (.lst (ys.map D.str)) M Q := by
  have go : ∀ xs : List Str, (∀ x ∈ xs, gd (.str x) = true) → pyAll (xs.map D.str) = some (xs.map PyData.str) ∧ SeqAt.shaped (.list (xs.map PyData.str)) = true := by
    intro xs g
    obtain ⟨ps, e, h1, h2, h3⟩ := pyAll_gd (xs.map D.str) fun x hx => by obtain ⟨s, hs, rfl⟩ := List.mem_map.mp hx; exact g s hs
    have e2 : ∀ xs : List Str, pyAll (xs.map D.str) = some (xs.map PyData.str) := fun xs => by
      induction xs with
      | nil => rfl
      | cons x xs ih => rw [List.map_cons, pyAll]; simp only [D.py, ih]; rfl
    have d0 : ∀ xs : List Str, depAll (xs.map D.str) = 0 := fun xs => by
      induction xs with
      | nil => rfl
      | cons x xs ih => rw [List.map_cons, depAll, ih]; rfl
    rw [e2 xs] at e
    cases e
    refine ⟨e2 xs, ?_⟩
    unfold SeqAt.shaped
    simp only [PyData.canLay0, PyData.depth, h2, h3, Bool.true_and, decide_eq_true_eq, d0]
    omega
  obtain ⟨a1, a2⟩ := go xs gx
  obtain ⟨b1, b2⟩ := go ys gy
  refine ⟨.list (xs.map PyData.str), .list (ys.map PyData.str), ?_, ?_, a2, b2, ?_⟩
  · show D.py (.lst _) = _
    rw [D.py, a1]
  · show D.py (.lst _) = _
    rw [D.py, b1]
  · have : PyData.eqv (.list (xs.map PyData.str)) (.list (ys.map PyData.str)) = decide (xs = ys) := by
      rw [PyData.eqv]
      exact PySem.W.eqvAll_map xs ys
    rw [if_neg (by decide), this]
    exact q
theorem ne_nilL {ys : List Str} (gy : ∀ x ∈ ys, gd (.str x) = true) {M : Mp} {Q : DK} (q : Q (.bl (!ys.isEmpty)) M) : rEqD2 true (.lst (ys.map D.str)) (.lst []) M Q := by
  obtain ⟨ps, e, h1, h2, h3⟩ := pyAll_gd (ys.map D.str) fun x hx => by obtain ⟨s, hs, rfl⟩ := List.mem_map.mp hx; exact gy s hs
  have d0 : ∀ xs : List Str, depAll (xs.map D.str) = 0 := fun xs => by
    induction xs with
    | nil => rfl
    | cons x xs ih => rw [List.map_cons, depAll, ih]; rfl
  refine ⟨.list ps, .list [], ?_, rfl, ?_, by decide, ?_⟩
  · show D.py (.lst _) = _
    rw [D.py, e]
  · unfold SeqAt.shaped
    simp only [PyData.canLay0, PyData.depth, h2, h3, Bool.true_and, decide_eq_true_eq, d0]
    omega
  · have : PyData.eqv (.list ps) (.list []) = ys.isEmpty := by
      cases ys with
      | nil => simp [pyAll] at e; subst e; rfl
      | cons x xs =>
        simp only [List.map_cons, pyAll] at e
        split at e
        · cases e; rfl
        · cases e
    rw [if_pos rfl, this]
    exact q
theorem len2 {α : Type} {l : List α} (h : l.length = 2) : ∃ a b, l = [a, b] := by
  rcases l with _ | ⟨a, _ | ⟨b, _ | ⟨c, r⟩⟩⟩ <;> simp at h
  exact ⟨a, b, rfl⟩
def arT (t : Str) : Nat := if t = "cat" ∨ t = "or" then 3 else if t = "star" then 2 else 0
theorem lk_ar (t : Str) : ((lkD (.inr t) (([("cat", 3), ("or", 3), ("star", 2)] : List (Str × Int)).map fun kv => Sum.inr kv.1) (([("cat", 3), ("or", 3), ("star", 2)] : List (Str × Int)).map fun kv => DL.D.int kv.2)).getD (.int 0)) = .int (arT t : Nat) := by
  unfold arT
  by_cases h1 : t = "cat"
  · subst h1; rfl
  by_cases h2 : t = "or"
  · subst h2; rfl
  by_cases h3 : t = "star"
  · subst h3; rfl
  simp [h1, h2, h3, lkD, Ne.symm h1, Ne.symm h2, Ne.symm h3]
theorem gd_sg {c : Nat} (h : c < 128) : gd (.str (sg c)) = true := gd_str.mpr ⟨by show 1 ≤ _; omega, fun d hd => by simp [sg] at hd; omega⟩
theorem rd_tsize (N : Nat) : ∀ ds M Q, sp_tsize (N + 1) ds M Q → ds.length = 2 ∧ r__law_type_size (sp_tsize N) { nx := fun _ M' => Q .non M', rt := Q } (dstart N__law_type_size ds) M := by
  rintro _ M Q ⟨v, n, rfl, hn, gv, q⟩
  refine ⟨rfl, ?_⟩
  refine ⟨_, rfl, decide ((n : Int) = 0), rfl, ?_⟩
  cases n with
  | zero => exact q
  | succ n =>
  have n0 : ¬ (((n + 1 : Nat) : Int) = 0) := by omega
  rw [decide_eq_false n0]
  unfold sizeT at q
  have bad : nodeB v = false → Q (.int 0) M := fun h => by rw [h] at q; exact q
  by_cases hv : ∃ xs, v = .tup xs
  case neg =>
    have e : nodeB v = false := by
      unfold nodeB
      split <;> first | rfl | exact absurd ⟨_, rfl⟩ hv
    have q0 := bad e
    cases v
    case tup xs => exact absurd ⟨xs, rfl⟩ hv
    case ref a => simp [gd] at gv
    case exc a b => simp [gd] at gv
    all_goals exact ⟨_, rfl, _, rfl, false, rfl, q0⟩
  obtain ⟨xs, rfl⟩ := hv
  obtain ⟨gl, ga⟩ := gd_tup.mp gv
  refine ⟨_, rfl, _, rfl, true, rfl, ?_⟩
  refine ⟨_, rfl, xs, rfl, small (by simp), in_lst (p := xs.length) (l := [2, 3]) rfl (fun y z => by cases z) ⟨_, rfl, ?_⟩⟩
  rw [if_pos rfl]
  by_cases hl : xs.length ∈ [2, 3]
  case neg =>
    rw [decide_eq_false hl]
    refine bad ?_
    unfold nodeB
    split
    · rename_i e; cases e; exact absurd (by simp) hl
    · rename_i e; cases e; exact absurd (by simp) hl
    · rfl
  rw [decide_eq_true hl]
  obtain ⟨x, r, rfl⟩ : ∃ x r, xs = x :: r := by
    cases xs with
    | nil => simp at hl
    | cons x r => exact ⟨x, r, rfl⟩
  have rl : r.length = 1 ∨ r.length = 2 := by simp at hl; omega
  refine ⟨_, rfl, _, _, rfl, ix0, ?_⟩
  have gx := ga x List.mem_cons_self
  by_cases hx : ∃ t, x = .str t
  case neg =>
    have e : nodeB (.tup (x :: r)) = false := by
      unfold nodeB
      split <;> first | rfl | (rename_i e; cases e; exact absurd ⟨_, rfl⟩ hx)
    have q0 := bad e
    cases x
    case str t => exact absurd ⟨t, rfl⟩ hx
    case ref a => simp [gd] at gx
    case exc a b => simp [gd] at gx
    all_goals exact ⟨_, rfl, false, rfl, q0⟩
  obtain ⟨t, rfl⟩ := hx
  refine ⟨_, rfl, true, rfl, ?_⟩
  refine ⟨_, rfl, _, _, rfl, ix0, small (by simp), in_texts (neg := false) (ws := LV) ⟨decide (t ∈ LV), rfl, ?_⟩⟩
  by_cases ht : t ∈ LV
  · rw [decide_eq_true ht]
    refine ⟨_, rfl, _, rfl, !decide ((((.str t :: r : List DL.D).length : Nat) : Int) = 2), rfl, ?_⟩
    rcases rl with rl | rl
    · obtain ⟨a, rfl⟩ := List.length_eq_one_iff.mp rl
      have ga1 : gd a = true := ga a (by simp)
      rw [decide_eq_true (by simp)]
      refine ⟨_, rfl, _, _, rfl, ix1, ?_⟩
      have nb : nodeB (.tup [.str t, a]) = leafB t a := by
        show (if t ∈ LV then leafB t a else _) = _
        rw [if_pos ht]
      by_cases hs : ∃ x, a = .str x
      case neg =>
        have e : nodeB (.tup [.str t, a]) = false := by
          rw [nb]
          unfold leafB
          cases a <;> first | exact absurd ⟨_, rfl⟩ hs | (split <;> rfl)
        have q0 := bad e
        cases a
        case str t => exact absurd ⟨t, rfl⟩ hs
        case ref a => simp [gd] at ga1
        case exc a b => simp [gd] at ga1
        all_goals exact ⟨_, rfl, false, rfl, q0⟩
      obtain ⟨x, rfl⟩ := hs
      obtain ⟨sz, asc7⟩ := gd_str.mp ga1
      refine ⟨_, rfl, true, rfl, ?_⟩
      show dCB rAllD (dCons (dLc true (dIt (dOp DL.rIxD (dSlot 0) (dC (.int 1)))) (dgName 5) dYes (dOp (DL.rInD false) (dSlot 5) (dC (.str SIG))) [5]) dNil) (dstart N__law_type_size [.tup [.str t, .str x], .int ((n + 1 : Nat) : Int)]) M _
      refine all_signs (by exact (by decide : 5 < 6)) sz (fun Q' h => ⟨_, rfl, _, _, rfl, ix1, h⟩) ⟨_, rfl, ?_⟩
      cases hta : x.cps.toList.all okSign with
      | false =>
        refine bad ?_
        rw [nb]
        unfold leafB
        split
        · simp [textB, hta]
        · simp [signB, textB, hta]
      | true =>
        have leaf : Q (.int (if leafB t (.str x) = true then 1 else 0)) M := by
          rw [nb] at q
          have p0 : partsB (.tup [.str t, .str x]) = [] := by
            show (if t ∈ LV then _ else _) = _
            rw [if_pos ht]
          rw [p0] at q
          cases hlb : leafB t (.str x) with
          | false => rw [hlb] at q; exact q
          | true => rw [hlb] at q; exact q
        refine ⟨_, rfl, _, _, rfl, ix0, decide (t = "text"), rfl, ?_⟩
        by_cases t1 : t = "text"
        · rw [decide_eq_true t1]
          refine ⟨_, rfl, _, _, rfl, ix1, small sz, ?_⟩
          refine ⟨_, rfl, ?_⟩
          have e : leafB t (.str x) = decide ((x.length : Int) < 21) := by
            unfold leafB textB
            rw [if_pos t1]
            simp only [hta, Bool.and_true]
            exact decide_eq_decide.mpr (by omega)
          rw [e] at leaf
          exact leaf
        · rw [decide_eq_false t1]
          refine ⟨_, rfl, _, _, rfl, ix1, x, rfl, small sz, newTr ?_⟩
          have few := few_sig (x := x) hta
          refine ⟨_, rfl, _, _, rfl, ix1, _, .inl ⟨x, rfl, rfl⟩, few, fun ys nd mem so => newTr ?_⟩
          have gy : ∀ y ∈ ys, gd (.str y) = true := fun y hy => by
            have := (mem y).mp hy
            rw [sg_eq] at this
            obtain ⟨c, hc, rfl⟩ := List.mem_map.mp this
            exact gd_sg (asc7 c hc)
          have e1 : DL.signs x = (x.cps.toList.map sg).map D.str := by unfold DL.signs; rw [List.map_map]; rfl
          rw [e1]
          refine eq_strs (fun y hy => by obtain ⟨c, hc, rfl⟩ := List.mem_map.mp hy; exact gd_sg (asc7 c hc)) gy ⟨_, rfl, ?_⟩
          have e2 : decide (x.cps.toList.map sg = ys) = asc x.cps.toList := by
            rw [← sign_same x nd mem so]
            obtain ⟨ms, rfl⟩ := sgs_of (ys := ys) fun y hy => by
              have := (mem y).mp hy
              rw [sg_eq] at this
              obtain ⟨c, _, e⟩ := List.mem_map.mp this
              exact ⟨c, e.symm⟩
            rw [gl_sg]
            refine decide_eq_decide.mpr ⟨fun z => ?_, fun z => ?_⟩
            · have : x.cps.toList = ms := (List.map_inj_right (fun a b h => sg_inj h)).mp z
              rw [← this]
            · rw [← z]
          rw [e2]
          have ne : ys.isEmpty = decide (x = "") := by
            by_cases z : x = ""
            · subst z
              cases ys with
              | nil => rfl
              | cons y ys =>
                have := (mem y).mp List.mem_cons_self
                exact (List.not_mem_nil this).elim
            · rw [decide_eq_false z]
              cases ys with
              | cons y ys => rfl
              | nil =>
                exfalso
                refine z ?_
                cases hx : x.cps.toList with
                | nil =>
                  have : x.cps = #[] := by rw [← Array.toArray_toList (xs := x.cps), hx]
                  cases x
                  simp at this
                  rw [this]
                  rfl
                | cons c l => exact (nomatch (mem (sg c)).mpr (by rw [sg_eq, hx]; simp))
          have lf : leafB t (.str x) = (asc x.cps.toList && !decide (x = "")) := by
            unfold leafB
            rw [if_neg t1]
            unfold signB textB
            simp only [hta, Bool.and_true]
            cases ha : asc x.cps.toList with
            | false => simp
            | true =>
              have l := asc_short (x := x) hta ha
              have l2 : (x.length : Int) ≤ 44 := by
                have : x.length = x.cps.size := rfl
                omega
              rw [decide_eq_true l2]
              simp
          rw [lf] at leaf
          cases ha : asc x.cps.toList with
          | false =>
            rw [ha] at leaf
            exact ⟨_, rfl, leaf⟩
          | true =>
            rw [ha] at leaf
            refine ⟨Nat.zero_le _, newTr (ne_nilL gy ?_)⟩
            rw [ne]
            exact ⟨_, rfl, leaf⟩
    · obtain ⟨a, b, rfl⟩ : ∃ a b, r = [a, b] := len2 rl
      rw [decide_eq_false (by simp)]
      refine bad ?_
      show decide (t ∈ PR) = false
      refine decide_eq_false ?_
      simp at ht ⊢
      rcases ht with rfl | rfl <;> decide
  · rw [decide_eq_false ht]
    refine ⟨_, rfl, _, rfl, _, rfl, _, _, rfl, ix0, t, rfl, ?_⟩
    rw [lk_ar]
    refine ⟨!decide ((((.str t :: r : List DL.D).length : Nat) : Int) = (arT t : Nat)), rfl, ?_⟩
    have p0 : partsB (.tup (.str t :: r)) = r := by
      show (if t ∈ LV then _ else _) = _
      rw [if_neg ht]
    by_cases ha : (((.str t :: r : List DL.D).length : Nat) : Int) = (arT t : Nat)
    · rw [decide_eq_true ha]
      have nb : nodeB (.tup (.str t :: r)) = true := by
        unfold arT at ha
        rcases rl with rl | rl
        · obtain ⟨a, rfl⟩ := List.length_eq_one_iff.mp rl
          show (if t ∈ LV then leafB t a else decide (t = "star")) = true
          rw [if_neg ht]
          refine decide_eq_true ?_
          split at ha
          · simp at ha
          · split at ha
            · assumption
            · simp at ha
        · obtain ⟨a, b, rfl⟩ : ∃ a b, r = [a, b] := len2 rl
          refine decide_eq_true ?_
          split at ha
          · simpa using ‹_›
          · split at ha <;> simp at ha
      rw [nb, p0] at q
      exact tail_sizes (sizeT n) (by decide) (by decide) (by decide) (by exact (by decide : 2 < 6)) (by exact (by decide : 4 < 6)) rfl rfl (by omega) (fun x hx Q' h => ⟨x, n, rfl, by omega, ga x (List.mem_cons_of_mem _ hx), h⟩) q
    · rw [decide_eq_false ha]
      refine bad ?_
      unfold arT at ha
      rcases rl with rl | rl
      · obtain ⟨a, rfl⟩ := List.length_eq_one_iff.mp rl
        show (if t ∈ LV then leafB t a else decide (t = "star")) = false
        rw [if_neg ht]
        refine decide_eq_false fun z => ?_
        subst z
        exact ha (by rfl)
      · obtain ⟨a, b, rfl⟩ : ∃ a b, r = [a, b] := len2 rl
        refine decide_eq_false fun z => ?_
        rw [if_pos (by simpa using z)] at ha
        exact ha (by rfl)
def tyB (v : DL.D) : Bool := decide (countT 30 v ≤ 120)
def sp_lty : DS1 := fun ds M Q => ∃ v, ds = [v] ∧ gd v = true ∧ Q (.bl (tyB v)) M
theorem rd_lty : ∀ ds M Q, sp_lty ds M Q → ds.length = 1 ∧ r__law_is_type (sp_tsize 31) { nx := fun _ M' => Q .non M', rt := Q } (dstart N__law_is_type ds) M := by
  rintro _ M Q ⟨v, rfl, gv, q⟩
  refine ⟨rfl, ?_⟩
  refine ⟨_, rfl, v, 30, rfl, by decide, gv, decide ((0 : Int) < (sizeT 30 v : Nat)), rfl, ?_⟩
  unfold tyB at q
  rw [← size_ty] at q
  by_cases h : 0 < sizeT 30 v
  · rw [decide_eq_true (by omega)]
    rw [decide_eq_true h, Bool.true_and] at q
    have e : decide (((sizeT 30 v : Nat) : Int) < 121) = decide (sizeT 30 v < 121) := decide_eq_decide.mpr (by omega)
    show Q (.bl (decide (((sizeT 30 v : Nat) : Int) < 121))) M
    rw [e]
    exact q
  · rw [decide_eq_false (by omega)]
    rw [decide_eq_false h] at q
    exact q
end K27

set_option maxHeartbeats 4000000
/-! K27g: a program's form and size, both ways. -/
namespace K27
open PySem PySem.Spec DL KB
open L2 (atI ixN)
open PyProof.Rows hiding St signs

theorem ix3 {x y z u : DL.D} {r : List DL.D} : atI (x :: y :: z :: u :: r) 3 = some u := L2.atI_nat (j := 3) rfl
theorem wd_of {t : Str} (h : t ∈ LV) : ∃ s, t = wd s := by
  simp at h
  rcases h with rfl | rfl
  · exact ⟨false, rfl⟩
  · exact ⟨true, rfl⟩
theorem pw_of {t : Str} (h : t ∈ PR) : ∃ o, t = pw o := by
  simp at h
  rcases h with rfl | rfl
  · exact ⟨false, rfl⟩
  · exact ⟨true, rfl⟩
theorem leaf_str {t : Str} {a : DL.D} (h : leafB t a = true) : ∃ x, a = .str x := by
  unfold leafB at h
  cases a <;> first | exact ⟨_, rfl⟩ | (split at h <;> cases h)
theorem ty_of : ∀ (n : Nat) (v : DL.D), countT n v < 1000 → ∃ t : Ty, v = t.d ∧ t.ok = true ∧ t.hi ≤ n
  | 0, v, h => absurd h (by simp [countT])
  | n + 1, v, h => by
    unfold countT at h
    cases hb : nodeB v with
    | false => rw [hb] at h; simp at h
    | true =>
      rw [hb, if_pos rfl] at h
      obtain ⟨t, r, rfl, r2, r1⟩ := node_shape hb
      have pe : partsB (.tup (.str t :: r)) = if t ∈ LV then [] else r := rfl
      rcases r with _ | ⟨a, _ | ⟨b, _ | ⟨c, r⟩⟩⟩
      · simp at r1
      · have nb : (if t ∈ LV then leafB t a else decide (t = "star")) = true := hb
        by_cases ht : t ∈ LV
        · rw [if_pos ht] at nb
          obtain ⟨s, rfl⟩ := wd_of ht
          obtain ⟨x, rfl⟩ := leaf_str nb
          refine ⟨.leaf s x.cps.toList, ?_, ?_, Nat.succ_le_succ (Nat.zero_le _)⟩
          · show _ = DL.D.tup [.str (wd s), .str (S x.cps.toList)]
            rw [← S_of]
          · show leafB (wd s) (.str (S x.cps.toList)) = true
            rw [← S_of]
            exact nb
        · rw [if_neg ht] at nb
          obtain rfl : t = "star" := of_decide_eq_true nb
          rw [pe, if_neg ht] at h
          obtain ⟨u, rfl, o, hu⟩ := ty_of n a (by simp at h; omega)
          exact ⟨.star u, rfl, o, Nat.succ_le_succ hu⟩
      · have nb : decide (t ∈ PR) = true := hb
        have hp := of_decide_eq_true nb
        obtain ⟨o, rfl⟩ := pw_of hp
        rw [pe, if_neg (by cases o <;> decide)] at h
        simp at h
        obtain ⟨u, rfl, o1, h1⟩ := ty_of n a (by omega)
        obtain ⟨w, rfl, o2, h2⟩ := ty_of n b (by omega)
        exact ⟨.pair o u w, rfl, by simp [Ty.ok, o1, o2], by simp only [Ty.hi]; omega⟩
      · simp at r2
theorem ty_B {v : DL.D} (h : tyB v = true) : ∃ t : Ty, v = t.d ∧ t.ok = true ∧ t.hi ≤ 30 ∧ t.nodes ≤ 120 := by
  have h := of_decide_eq_true h
  obtain ⟨t, rfl, o, hi⟩ := ty_of 30 v (by omega)
  rw [ty_count o hi] at h
  exact ⟨t, rfl, o, hi, h⟩
theorem wd_inj {a b : Bool} (h : wd a = wd b) : a = b := by
  cases a <;> cases b <;> first | rfl | exact absurd h (by decide)
theorem pw_inj {a b : Bool} (h : pw a = pw b) : a = b := by
  cases a <;> cases b <;> first | rfl | exact absurd h (by decide)
theorem ty_tup (t : Ty) : ∃ xs, t.d = .tup xs := by cases t <;> exact ⟨_, rfl⟩
theorem ty_inj : ∀ {t u : Ty}, t.d = u.d → t = u
  | .leaf s x, .leaf s2 x2, h => by
    simp only [Ty.d, D.tup.injEq, List.cons.injEq, D.str.injEq, and_true] at h
    rw [wd_inj h.1, S_inj h.2]
  | .star t, .star u, h => by
    simp only [Ty.d, D.tup.injEq, List.cons.injEq, and_true, true_and] at h
    rw [ty_inj h]
  | .pair o a b, .pair o2 a2 b2, h => by
    simp only [Ty.d, D.tup.injEq, List.cons.injEq, D.str.injEq, and_true] at h
    rw [pw_inj h.1, ty_inj h.2.1, ty_inj h.2.2]
  | .leaf s x, .star u, h => by
    obtain ⟨xs, e⟩ := ty_tup u
    simp [Ty.d, e] at h
  | .star u, .leaf s x, h => by
    obtain ⟨xs, e⟩ := ty_tup u
    simp [Ty.d, e] at h
  | .leaf s x, .pair o a b, h => by simp [Ty.d] at h
  | .star u, .pair o a b, h => by simp [Ty.d] at h
  | .pair o a b, .leaf s x, h => by simp [Ty.d] at h
  | .pair o a b, .star u, h => by simp [Ty.d] at h
open Classical in
/-- the value's type has the text -/
noncomputable def hasV (v w : DL.D) : Bool := decide (∃ (t : Ty) (T : List Nat), v = t.d ∧ w = .str (S T) ∧ En T t 0 T.length)
open Classical in
theorem hasV_eq (t : Ty) (T : List Nat) : hasV t.d (.str (S T)) = hasB t T := by
  unfold hasV hasB
  refine decide_eq_decide.mpr ⟨?_, fun h => ⟨t, T, rfl, rfl, h⟩⟩
  rintro ⟨u, U, e1, e2, h⟩
  rw [ty_inj e1]
  simp only [D.str.injEq] at e2
  rw [S_inj e2]
  exact h
noncomputable def constB (a b c : DL.D) : Bool := tyB a && textB b 100 && textB c 100 && hasV a c
noncomputable def constD : DL.D → Bool
  | .tup [_, a, b, c] => constB a b c
  | _ => false
theorem text_S {c : DL.D} (h : textB c 100 = true) : ∃ T : List Nat, c = .str (S T) ∧ T.length ≤ 100 := by
  cases c <;> first | (simp [textB] at h; done) | skip
  rename_i x
  have l : (x.length : Int) ≤ 100 := by
    unfold textB at h
    simp only [Bool.and_eq_true, decide_eq_true_eq] at h
    exact h.1
  refine ⟨x.cps.toList, by rw [← S_of], ?_⟩
  rw [Array.length_toList]
  have : x.length = x.cps.size := rfl
  omega
def sp_const : DS1 := fun ds M Q => ∃ x y r, ds = [.tup (x :: y :: r)] ∧ gd (.tup (x :: y :: r)) = true ∧ dep (.tup (x :: y :: r)) ≤ 62 ∧ Q (.bl (constD (.tup (x :: y :: r)))) M
theorem rd_const : ∀ ds M Q, sp_const ds M Q → ds.length = 1 ∧ r_is_const sp_type sp_text (sp_ends 32) { nx := fun _ M' => Q .non M', rt := Q } (dstart N_is_const ds) M := by
  rintro _ M Q ⟨x, a, r, rfl, gv, dv, q⟩
  refine ⟨rfl, ?_⟩
  obtain ⟨gl, ga⟩ := gd_tup.mp gv
  refine ⟨_, rfl, _, rfl, !decide ((((x :: a :: r : List DL.D).length : Nat) : Int) = 4), rfl, ?_⟩
  by_cases hl : (((x :: a :: r : List DL.D).length : Nat) : Int) = 4
  case neg =>
    rw [decide_eq_false hl]
    have e : constD (.tup (x :: a :: r)) = false := by
      unfold constD
      split
      · rename_i e; cases e; exact absurd rfl hl
      · rfl
    rw [e] at q
    exact q
  rw [decide_eq_true hl]
  obtain ⟨b, c, rfl⟩ : ∃ b c, r = [b, c] := len2 (by simp at hl; omega)
  have e : constD (.tup [x, a, b, c]) = constB a b c := rfl
  rw [e] at q
  have da : dep a + 1 ≤ dep (.tup [x, a, b, c]) := by simp only [dep, depAll]; omega
  refine ⟨_, rfl, _, _, rfl, ix1, a, rfl, ga a (by simp), by omega, tyB a, rfl, ?_⟩
  unfold constB at q
  cases h1 : tyB a with
  | false => rw [h1] at q; exact q
  | true =>
  rw [h1] at q
  refine ⟨_, rfl, _, _, rfl, ix2, b, 100, rfl, gd_plain (ga b (by simp)), textB b 100, rfl, ?_⟩
  cases h2 : textB b 100 with
  | false => rw [h2] at q; exact q
  | true =>
  rw [h2] at q
  refine ⟨_, rfl, _, _, rfl, ix3, c, 100, rfl, gd_plain (ga c (by simp)), textB c 100, rfl, ?_⟩
  cases h3 : textB c 100 with
  | false => rw [h3] at q; exact q
  | true =>
  rw [h3] at q
  obtain ⟨t, rfl, o, hi, nd⟩ := ty_B h1
  obtain ⟨T, rfl, lT⟩ := text_S h3
  refine ⟨_, rfl, _, _, rfl, ix3, small (by rw [S_len]; omega), ?_⟩
  rw [S_len]
  refine ⟨_, rfl, _, _, rfl, ix1, _, rfl, _, _, rfl, ix3, t, T, 0, rfl, o, by omega, lT, Nat.zero_le _, fun l pl ml => ?_⟩
  refine in_lst (l := l) rfl (fun y z => by cases z) ?_
  rw [if_neg (by decide), has_in ml, ← hasV_eq]
  exact q
/-! ### forms -/
abbrev TW : List Str := ["cat", "or", "swap", "keyed", "then"]
inductive Fm where
  | bad
  | copy (a : DL.D)
  | const (a b c : DL.D)
  | node (r : List DL.D)
def form : DL.D → Fm
  | .tup [.str w, a] => if w = "copy" then .copy a else if w = "star" then .node [a] else .bad
  | .tup [.str w, a, b] => if w ∈ TW then .node [a, b] else .bad
  | .tup [.str w, a, b, c] => if w = "const" then .const a b c else .bad
  | _ => .bad
noncomputable def szF (f : DL.D → Nat) : Fm → Nat
  | .bad => 0
  | .copy a => if tyB a = true then 1 else 0
  | .const a b c => if constB a b c = true then 1 else 0
  | .node r => if 0 ∈ r.map f then 0 else 1 + (r.map f).sum
noncomputable def sizeP : Nat → DL.D → Nat
  | 0, _ => 0
  | n + 1, v => szF (sizeP n) (form v)
def cut80 (n : Nat) : Nat := if n ≤ 80 then n else 0
theorem form_node {v : DL.D} {r : List DL.D} (h : form v = .node r) : ∃ w, v = .tup (.str w :: r) ∧ (w = "star" ∧ r.length = 1 ∨ w ∈ TW ∧ r.length = 2) := by
  unfold form at h
  split at h
  · split at h
    · cases h
    · split at h
      · rename_i e; cases h; exact ⟨_, rfl, .inl ⟨e, rfl⟩⟩
      · cases h
  · split at h
    · rename_i e; cases h; exact ⟨_, rfl, .inr ⟨e, rfl⟩⟩
    · cases h
  · split at h <;> cases h
  · cases h
def sp_size (N : Nat) : DS1 := fun ds M Q => ∃ v n, ds = [v, .int (n : Nat)] ∧ n < N ∧ gd v = true ∧ Q (.int (sizeP n v : Nat)) M
def sp_many (N : Nat) : DS1 := fun ds M Q => ∃ v n, ds = [v, .int (n : Nat)] ∧ n < N ∧ gd v = true ∧ dep v ≤ 62 ∧ Q (.int (cut80 (sizeP n v) : Nat)) M
/-- no tuple, too short, no word: bad -/
theorem form_tup {v : DL.D} (h : ¬ ∃ w a r, v = .tup (.str w :: a :: r)) : form v = .bad := by
  unfold form
  split <;> first | rfl | exact absurd ⟨_, _, _, rfl⟩ h
def arP (t : Str) : Nat := if t ∈ TW then 3 else if t = "star" then 2 else 0
theorem lk_arP (t : Str) : ((lkD (.inr t) (([("cat", 3), ("swap", 3), ("or", 3), ("star", 2), ("keyed", 3), ("then", 3)] : List (Str × Int)).map fun kv => Sum.inr kv.1) (([("cat", 3), ("swap", 3), ("or", 3), ("star", 2), ("keyed", 3), ("then", 3)] : List (Str × Int)).map fun kv => DL.D.int kv.2)).getD (.int 0)) = .int (arP t : Nat) := by
  unfold arP
  by_cases h1 : t = "cat"
  · subst h1; rfl
  by_cases h2 : t = "or"
  · subst h2; rfl
  by_cases h3 : t = "star"
  · subst h3; rfl
  by_cases h4 : t = "swap"
  · subst h4; rfl
  by_cases h5 : t = "keyed"
  · subst h5; rfl
  by_cases h6 : t = "then"
  · subst h6; rfl
  simp [h1, h2, h3, h4, h5, h6, lkD, Ne.symm h1, Ne.symm h2, Ne.symm h3, Ne.symm h4, Ne.symm h5, Ne.symm h6]
/-- the form of what is neither copy nor const -/
theorem form_else {w : Str} {r : List DL.D} (c1 : w ≠ "copy") (c2 : w ≠ "const") : form (.tup (.str w :: r)) = if r.length + 1 = arP w then .node r else .bad := by
  have cw : arP w = 3 ∨ arP w = 2 ∨ arP w = 0 := by
    unfold arP
    split
    · exact .inl rfl
    · split
      · exact .inr (.inl rfl)
      · exact .inr (.inr rfl)
  rcases r with _ | ⟨a, _ | ⟨b, _ | ⟨c, _ | ⟨d, r⟩⟩⟩⟩
  · rw [if_neg (by simp; omega)]
    rfl
  · show (if w = "copy" then Fm.copy a else if w = "star" then .node [a] else .bad) = _
    rw [if_neg c1]
    by_cases h : w = "star"
    · rw [if_pos h]; subst h; rfl
    · rw [if_neg h, if_neg]
      unfold arP
      rw [if_neg h]
      split <;> simp
  · show (if w ∈ TW then Fm.node [a, b] else .bad) = _
    by_cases h : w ∈ TW
    · rw [if_pos h, if_pos]
      unfold arP
      rw [if_pos h]; rfl
    · rw [if_neg h, if_neg]
      unfold arP
      rw [if_neg h]
      split <;> simp
  · show (if w = "const" then Fm.const a b c else .bad) = _
    rw [if_neg c2, if_neg (by simp; omega)]
  · rw [if_neg (by simp; omega)]
    rfl
theorem rd_size (N : Nat) : ∀ ds M Q, sp_size (N + 1) ds M Q → ds.length = 2 ∧ r__law_size sp_lty sp_text sp_has (sp_size N) { nx := fun _ M' => Q .non M', rt := Q } (dstart N__law_size ds) M := by
  rintro _ M Q ⟨v, n, rfl, hn, gv, q⟩
  refine ⟨rfl, ?_⟩
  refine ⟨_, rfl, decide ((n : Int) = 0), rfl, ?_⟩
  cases n with
  | zero => exact q
  | succ n =>
  have n0 : ¬ (((n + 1 : Nat) : Int) = 0) := by omega
  rw [decide_eq_false n0]
  unfold sizeP at q
  have bad : form v = .bad → Q (.int 0) M := fun h => by rw [h] at q; exact q
  by_cases hv : ∃ xs, v = .tup xs
  case neg =>
    have q0 := bad (form_tup fun ⟨w, a, r, e⟩ => hv ⟨_, e⟩)
    cases v
    case tup xs => exact absurd ⟨xs, rfl⟩ hv
    case ref a => simp [gd] at gv
    case exc a b => simp [gd] at gv
    all_goals exact ⟨_, rfl, _, rfl, false, rfl, q0⟩
  obtain ⟨xs, rfl⟩ := hv
  obtain ⟨gl, ga⟩ := gd_tup.mp gv
  refine ⟨_, rfl, _, rfl, true, rfl, ?_⟩
  refine ⟨_, rfl, xs, rfl, decide ((xs.length : Int) < 2), rfl, ?_⟩
  by_cases hl : (xs.length : Int) < 2
  · rw [decide_eq_true hl]
    refine bad (form_tup fun ⟨w, a, r, e⟩ => ?_)
    cases e
    simp at hl
    omega
  rw [decide_eq_false hl]
  obtain ⟨x, a, r, rfl⟩ : ∃ x a r, xs = x :: a :: r := by
    rcases xs with _ | ⟨x, _ | ⟨a, r⟩⟩
    · simp at hl
    · simp at hl
    · exact ⟨x, a, r, rfl⟩
  refine ⟨_, rfl, _, _, rfl, ix0, ?_⟩
  have gx := ga x List.mem_cons_self
  by_cases hx : ∃ t, x = .str t
  case neg =>
    have q0 := bad (form_tup fun ⟨w, a, r, e⟩ => hx (by cases e; exact ⟨_, rfl⟩))
    cases x
    case str t => exact absurd ⟨t, rfl⟩ hx
    case ref a => simp [gd] at gx
    case exc a b => simp [gd] at gx
    all_goals exact ⟨_, rfl, false, rfl, q0⟩
  obtain ⟨w, rfl⟩ := hx
  refine ⟨_, rfl, true, rfl, ?_⟩
  refine ⟨_, rfl, _, _, rfl, ix0, decide (w = "copy"), rfl, ?_⟩
  by_cases c1 : w = "copy"
  · rw [decide_eq_true c1]
    subst c1
    refine ⟨_, rfl, _, rfl, decide ((((.str "copy" :: a :: r : List DL.D).length : Nat) : Int) = 2), rfl, ?_⟩
    rcases r with _ | ⟨b, r⟩
    · rw [decide_eq_true (by rfl)]
      refine ⟨_, rfl, _, _, rfl, ix1, a, rfl, ga a (by simp), ?_⟩
      have e : form (.tup [.str "copy", a]) = .copy a := rfl
      rw [e] at q
      have q : Q (.int ((if tyB a = true then 1 else 0 : Nat) : Nat)) M := q
      cases h : tyB a with
      | false => rw [h] at q; exact q
      | true => rw [h] at q; exact q
    · rw [decide_eq_false (by simp; omega)]
      refine bad ?_
      rcases r with _ | ⟨c, _ | ⟨d, r⟩⟩ <;> rfl
  rw [decide_eq_false c1]
  refine ⟨_, rfl, _, _, rfl, ix0, decide (w = "const"), rfl, ?_⟩
  by_cases c2 : w = "const"
  · rw [decide_eq_true c2]
    subst c2
    refine ⟨_, rfl, _, rfl, !decide ((((.str "const" :: a :: r : List DL.D).length : Nat) : Int) = 4), rfl, ?_⟩
    by_cases hl : (((.str "const" :: a :: r : List DL.D).length : Nat) : Int) = 4
    case neg =>
      rw [decide_eq_false hl]
      refine bad ?_
      rcases r with _ | ⟨b, _ | ⟨c, _ | ⟨d, r⟩⟩⟩
      · rfl
      · rfl
      · exact absurd rfl hl
      · rfl
    rw [decide_eq_true hl]
    obtain ⟨b, c, rfl⟩ : ∃ b c, r = [b, c] := len2 (by simp at hl; omega)
    have e : form (.tup [.str "const", a, b, c]) = .const a b c := rfl
    rw [e] at q
    have q : Q (.int ((if constB a b c = true then 1 else 0 : Nat) : Nat)) M := q
    unfold constB at q
    refine ⟨_, rfl, _, _, rfl, ix1, a, rfl, ga a (by simp), tyB a, rfl, ?_⟩
    cases h1 : tyB a with
    | false => rw [h1] at q; exact q
    | true =>
    rw [h1] at q
    refine ⟨_, rfl, _, _, rfl, ix2, b, 100, rfl, gd_plain (ga b (by simp)), textB b 100, rfl, ?_⟩
    cases h2 : textB b 100 with
    | false => rw [h2] at q; exact q
    | true =>
    rw [h2] at q
    refine ⟨_, rfl, _, _, rfl, ix3, c, 100, rfl, gd_plain (ga c (by simp)), textB c 100, rfl, ?_⟩
    cases h3 : textB c 100 with
    | false => rw [h3] at q; exact q
    | true =>
    rw [h3] at q
    obtain ⟨t, rfl, o, hi, nd⟩ := ty_B h1
    obtain ⟨T, rfl, lT⟩ := text_S h3
    rw [hasV_eq] at q
    refine ⟨_, rfl, _, _, rfl, ix1, _, rfl, _, _, rfl, ix3, t, T, rfl, o, by omega, lT, ?_⟩
    cases h4 : hasB t T with
    | false => rw [h4] at q; exact q
    | true => rw [h4] at q; exact q
  rw [decide_eq_false c2]
  refine ⟨_, rfl, _, _, rfl, ix0, w, rfl, ?_⟩
  rw [lk_arP]
  refine ⟨_, rfl, _, rfl, _, rfl, !decide ((((.str w :: a :: r : List DL.D).length : Nat) : Int) = (arP w : Nat)), rfl, ?_⟩
  rw [form_else c1 c2] at q
  by_cases h : (a :: r).length + 1 = arP w
  · rw [if_pos h] at q
    rw [decide_eq_true (by rw [← h]; rfl)]
    exact tail_sizes (sizeP n) (by decide) (by decide) (by decide) (by exact (by decide : 3 < 5)) (by exact (by decide : 4 < 5)) rfl rfl (by simp at gl ⊢; omega) (fun x hx Q' h => ⟨x, n, rfl, by omega, ga x (List.mem_cons_of_mem _ hx), h⟩) q
  · rw [if_neg h] at q
    rw [decide_eq_false (by intro z; exact h (Int.ofNat.inj z))]
    exact q
theorem many_loop {sp : DS1} {Q : DK} {M : Mp} {v : DL.D} {n : Nat} {D : DEnds} (hnx : ∀ (ρ : Rho) M, (∃ d, ρ[2]? = some (some d) ∧ Q d M) → D.nx ρ M) (hrt : D.rt = Q) : ∀ (r : List DL.D) (k : Nat) (x3 x4 : Option DL.D), 1 ≤ k → k ≤ 80 →
    (∀ x ∈ r, ∀ Q' : DK, Q' (.int (cut80 (sizeP n x) : Nat)) M → sp [x, .int (n : Nat)] M Q') → Q (.int ((if 0 ∈ r.map (sizeP n) then 0 else cut80 (k + (r.map (sizeP n)).sum) : Nat) : Nat)) M →
    forW (dgName 3) (dSeq (dAsg (dCall1 sp (dCons (dSlot 3) (dCons (dOp (rInt (fun _ _ => True) fun i j => .int (i - j)) (dSlot 1) (dC (.int 1))) dNil))) (dgName 4)) (dSeq (dAsg (dOp (rAddD true) (dSlot 2) (dSlot 4)) (dgName 2)) (dIfS (dOrT (dB (dOp (rEqD2 false) (dSlot 4) (dC (.int 0)))) (dB (dOp (rInt (fun _ _ => True) fun i j => .bl (decide (j < i))) (dSlot 2) (dC v_MOST_PROGRAMS)))) (dRet (dC (.int 0))) dNext)))
      D (fun _ => True) r [some v, some (.int ((n + 1 : Nat) : Int)), some (.int (k : Nat)), x3, x4] M
  | [], k, x3, x4, k1, k2, _, q => by
    refine ⟨trivial, hnx _ _ ⟨_, rfl, ?_⟩⟩
    have e : (if 0 ∈ ([] : List DL.D).map (sizeP n) then 0 else cut80 (k + (([] : List DL.D).map (sizeP n)).sum)) = k := by
      rw [if_neg (by simp)]
      unfold cut80
      simp [k2]
    rw [e] at q
    exact q
  | x :: r, k, x3, x4, k1, k2, hsp, q => by
    refine ⟨trivial, _, rfl, _, rfl, _, _, rfl, rfl, trivial, ?_⟩
    have e1 : (((n + 1 : Nat) : Int) - 1) = (n : Int) := by omega
    show sp [x, .int (((n + 1 : Nat) : Int) - 1)] M _
    rw [e1]
    refine hsp x List.mem_cons_self _ ?_
    refine ⟨_, rfl, _, rfl, _, rfl, decide (((cut80 (sizeP n x) : Nat) : Int) = 0), rfl, ?_⟩
    rw [List.map_cons, List.sum_cons] at q
    by_cases z : cut80 (sizeP n x) = 0
    · rw [z, decide_eq_true (by rfl)]
      show D.rt (.int 0) M
      rw [hrt]
      have e : (if 0 ∈ sizeP n x :: r.map (sizeP n) then 0 else cut80 (k + (sizeP n x + (r.map (sizeP n)).sum))) = 0 := by
        split
        · rfl
        · rename_i h
          unfold cut80 at z ⊢
          by_cases h80 : sizeP n x ≤ 80
          · rw [if_pos h80] at z
            exact absurd (by rw [z]; simp) h
          · rw [if_neg (by omega)]
      rw [e] at q
      exact q
    · have h80 : sizeP n x ≤ 80 := by
        by_cases h : sizeP n x ≤ 80
        · exact h
        · exact absurd (by unfold cut80; rw [if_neg h]) z
      have e2 : cut80 (sizeP n x) = sizeP n x := by unfold cut80; rw [if_pos h80]
      rw [e2] at z ⊢
      rw [decide_eq_false (by omega)]
      refine ⟨_, rfl, _, _, rfl, rfl, trivial, decide ((80 : Int) < (k : Int) + (sizeP n x : Nat)), rfl, ?_⟩
      by_cases t : (80 : Int) < (k : Int) + (sizeP n x : Nat)
      · rw [decide_eq_true t]
        show D.rt (.int 0) M
        rw [hrt]
        have e : (if 0 ∈ sizeP n x :: r.map (sizeP n) then 0 else cut80 (k + (sizeP n x + (r.map (sizeP n)).sum))) = 0 := by
          split
          · rfl
          · unfold cut80
            rw [if_neg (by omega)]
        rw [e] at q
        exact q
      · rw [decide_eq_false t]
        have e3 : (k : Int) + (sizeP n x : Nat) = ((k + sizeP n x : Nat) : Int) := by omega
        show forW _ _ _ _ r [some v, some (.int ((n + 1 : Nat) : Int)), some (.int ((k : Int) + (sizeP n x : Nat))), _, _] M
        rw [e3]
        refine many_loop hnx hrt r (k + sizeP n x) _ _ (by omega) (by omega) (fun y hy => hsp y (List.mem_cons_of_mem _ hy)) ?_
        have e : (if 0 ∈ sizeP n x :: r.map (sizeP n) then 0 else cut80 (k + (sizeP n x + (r.map (sizeP n)).sum))) = (if 0 ∈ r.map (sizeP n) then 0 else cut80 (k + sizeP n x + (r.map (sizeP n)).sum)) := by
          rw [Nat.add_assoc]
          by_cases h : 0 ∈ r.map (sizeP n)
          · rw [if_pos h, if_pos (List.mem_cons_of_mem _ h)]
          · rw [if_neg h, if_neg]
            intro y
            rcases List.mem_cons.mp y with y | y
            · exact z y.symm
            · exact h y
        rw [e] at q
        exact q
theorem rd_many (N : Nat) : ∀ ds M Q, sp_many (N + 1) ds M Q → ds.length = 2 ∧ r_many_in sp_type sp_const (sp_many N) { nx := fun _ M' => Q .non M', rt := Q } (dstart N_many_in ds) M := by
  rintro _ M Q ⟨v, n, rfl, hn, gv, dv, q⟩
  refine ⟨rfl, ?_⟩
  refine ⟨_, rfl, decide ((n : Int) = 0), rfl, ?_⟩
  cases n with
  | zero => exact q
  | succ n =>
  have n0 : ¬ (((n + 1 : Nat) : Int) = 0) := by omega
  rw [decide_eq_false n0]
  unfold sizeP at q
  have bad : form v = .bad → Q (.int 0) M := fun h => by rw [h] at q; exact q
  by_cases hv : ∃ xs, v = .tup xs
  case neg =>
    have q0 := bad (form_tup fun ⟨w, a, r, e⟩ => hv ⟨_, e⟩)
    cases v
    case tup xs => exact absurd ⟨xs, rfl⟩ hv
    case ref a => simp [gd] at gv
    case exc a b => simp [gd] at gv
    all_goals exact ⟨_, rfl, _, rfl, false, rfl, q0⟩
  obtain ⟨xs, rfl⟩ := hv
  obtain ⟨gl, ga⟩ := gd_tup.mp gv
  refine ⟨_, rfl, _, rfl, true, rfl, ?_⟩
  refine ⟨_, rfl, xs, rfl, decide ((xs.length : Int) < 2), rfl, ?_⟩
  by_cases hl : (xs.length : Int) < 2
  · rw [decide_eq_true hl]
    refine bad (form_tup fun ⟨w, a, r, e⟩ => ?_)
    cases e
    simp at hl
    omega
  rw [decide_eq_false hl]
  obtain ⟨x, a, r, rfl⟩ : ∃ x a r, xs = x :: a :: r := by
    rcases xs with _ | ⟨x, _ | ⟨a, r⟩⟩
    · simp at hl
    · simp at hl
    · exact ⟨x, a, r, rfl⟩
  refine ⟨_, rfl, _, _, rfl, ix0, ?_⟩
  have gx := ga x List.mem_cons_self
  by_cases hx : ∃ t, x = .str t
  case neg =>
    have q0 := bad (form_tup fun ⟨w, a, r, e⟩ => hx (by cases e; exact ⟨_, rfl⟩))
    cases x
    case str t => exact absurd ⟨t, rfl⟩ hx
    case ref a => simp [gd] at gx
    case exc a b => simp [gd] at gx
    all_goals exact ⟨_, rfl, false, rfl, q0⟩
  obtain ⟨w, rfl⟩ := hx
  refine ⟨_, rfl, true, rfl, ?_⟩
  refine ⟨_, rfl, _, _, rfl, ix0, decide (w = "copy"), rfl, ?_⟩
  by_cases c1 : w = "copy"
  · rw [decide_eq_true c1]
    subst c1
    refine ⟨_, rfl, _, rfl, decide ((((.str "copy" :: a :: r : List DL.D).length : Nat) : Int) = 2), rfl, ?_⟩
    rcases r with _ | ⟨b, r⟩
    · rw [decide_eq_true (by rfl)]
      have da : dep a + 1 ≤ dep (.tup [.str "copy", a]) := by simp only [dep, depAll]; omega
      refine ⟨_, rfl, _, _, rfl, ix1, a, rfl, ga a (by simp), by omega, ?_⟩
      have e : form (.tup [.str "copy", a]) = .copy a := rfl
      rw [e] at q
      have q : Q (.int ((cut80 (if tyB a = true then 1 else 0) : Nat) : Nat)) M := q
      show Q (.int (if tyB a = true then 1 else 0)) M
      cases h : tyB a with
      | false => rw [h] at q; exact q
      | true => rw [h] at q; exact q
    · rw [decide_eq_false (by simp; omega)]
      refine bad ?_
      rcases r with _ | ⟨c, _ | ⟨d, r⟩⟩ <;> rfl
  rw [decide_eq_false c1]
  refine ⟨_, rfl, _, _, rfl, ix0, decide (w = "const"), rfl, ?_⟩
  by_cases c2 : w = "const"
  · rw [decide_eq_true c2]
    subst c2
    refine ⟨_, rfl, .str "const", a, r, rfl, gv, dv, ?_⟩
    by_cases hl : (((.str "const" :: a :: r : List DL.D).length : Nat) : Int) = 4
    case neg =>
      have e : form (.tup (.str "const" :: a :: r)) = .bad ∧ constD (.tup (.str "const" :: a :: r)) = false := by
        rcases r with _ | ⟨b, _ | ⟨c, _ | ⟨d, r⟩⟩⟩
        · exact ⟨rfl, rfl⟩
        · exact ⟨rfl, rfl⟩
        · exact absurd rfl hl
        · exact ⟨rfl, rfl⟩
      rw [e.2]
      exact bad e.1
    obtain ⟨b, c, rfl⟩ : ∃ b c, r = [b, c] := len2 (by simp at hl; omega)
    have e : form (.tup [.str "const", a, b, c]) = .const a b c := rfl
    rw [e] at q
    have q : Q (.int ((cut80 (if constB a b c = true then 1 else 0) : Nat) : Nat)) M := q
    have e2 : constD (.tup [.str "const", a, b, c]) = constB a b c := rfl
    rw [e2]
    cases h1 : constB a b c with
    | false => rw [h1] at q; exact q
    | true => rw [h1] at q; exact q
  rw [decide_eq_false c2]
  rw [form_else c1 c2] at q
  show (dOp (DL.rInD false) (dOp DL.rIxD (dSlot 0) (dC (.int 0))) (dC v_ONE_PART)) _ M _
  refine op_in_texts ["star"] rfl (fun Q' h => ⟨_, rfl, _, _, rfl, ix0, h⟩) ⟨decide (w ∈ (["star"] : List Str)), rfl, ?_⟩
  have two : ∀ G : Bool → Mp → Prop, G (decide (w ∈ TW) && decide ((((.str w :: a :: r : List DL.D).length : Nat) : Int) = 3)) M →
      (dAndT (dB (dOp (DL.rInD false) (dOp DL.rIxD (dSlot 0) (dC (.int 0))) (dC v_TWO_PARTS))) (dB (dOp (rEqD2 false) (dCB DL.rLen (dCons (dSlot 0) dNil)) (dC (.int 3))))) (dstart N_many_in [.tup (.str w :: a :: r), .int ((n + 1 : Nat) : Int)]) M G := by
    intro G g
    show (dOp (DL.rInD false) (dOp DL.rIxD (dSlot 0) (dC (.int 0))) (dC v_TWO_PARTS)) _ M _
    refine op_in_texts TW rfl (fun Q' h => ⟨_, rfl, _, _, rfl, ix0, h⟩) ⟨decide (w ∈ TW), rfl, ?_⟩
    by_cases h : w ∈ TW
    · rw [decide_eq_true h]
      rw [decide_eq_true h, Bool.true_and] at g
      exact ⟨_, rfl, _, rfl, _, rfl, g⟩
    · rw [decide_eq_false h]
      rw [decide_eq_false h, Bool.false_and] at g
      exact g
  have go : (a :: r).length + 1 = arP w → (dSeq (dAsg (dC (.int 1)) (dgName 2)) (dSeq (dFor (dIt (dSl true (dSlot 0) (dPart (dC (.int 1))) dNoPart)) (dgName 3) (dSeq (dAsg (dCall1 (sp_many N) (dCons (dSlot 3) (dCons (dOp (rInt (fun _ _ => True) fun i j => .int (i - j)) (dSlot 1) (dC (.int 1))) dNil))) (dgName 4)) (dSeq (dAsg (dOp (rAddD true) (dSlot 2) (dSlot 4)) (dgName 2)) (dIfS (dOrT (dB (dOp (rEqD2 false) (dSlot 4) (dC (.int 0)))) (dB (dOp (rInt (fun _ _ => True) fun i j => .bl (decide (j < i))) (dSlot 2) (dC v_MOST_PROGRAMS)))) (dRet (dC (.int 0))) dNext)))) (dRet (dSlot 2)))) { nx := fun _ M' => Q .non M', rt := Q } (dstart N_many_in [.tup (.str w :: a :: r), .int ((n + 1 : Nat) : Int)]) M := by
    intro h
    rw [if_pos h] at q
    have sl1 : ∀ (ρ : Rho) (G : DK), ρ[0]? = some (some (.tup (.str w :: a :: r))) → G (.tup (a :: r)) M → dSl true (dSlot 0) (dPart (dC (.int 1))) dNoPart ρ M G := by
      intro ρ G h0 g
      refine ⟨_, h0, 1, rfl, ?_⟩
      show G (.tup (DL.cutD (D.str w :: a :: r) (some 1) none)) M
      rw [cut1]
      exact g
    refine sl1 _ _ rfl ?_
    refine many_loop (n := n) (Q := Q) (fun ρ M h => h) rfl (a :: r) 1 none none (by decide) (by decide) (fun x hx Q' h => ⟨x, n, rfl, by omega, ga x (List.mem_cons_of_mem _ hx), ?_, h⟩) ?_
    · have := (depAll_le (n := depAll (.str w :: a :: r))).mp (Nat.le_refl _) x (List.mem_cons_of_mem _ hx)
      simp only [dep] at dv
      omega
    · have e : cut80 (szF (sizeP n) (.node (a :: r))) = (if 0 ∈ (a :: r).map (sizeP n) then 0 else cut80 (1 + ((a :: r).map (sizeP n)).sum)) := by
        show cut80 (if 0 ∈ (a :: r).map (sizeP n) then 0 else 1 + ((a :: r).map (sizeP n)).sum) = _
        split <;> rfl
      rw [e] at q
      exact q
  have stop : (a :: r).length + 1 ≠ arP w → Q (.int 0) M := fun h => by
    rw [if_neg h] at q
    exact q
  by_cases hs : w = "star"
  · rw [decide_eq_true (by simp [hs])]
    refine ⟨_, rfl, _, rfl, decide ((((.str w :: a :: r : List DL.D).length : Nat) : Int) = 2), rfl, ?_⟩
    have ar : arP w = 2 := by subst hs; rfl
    by_cases h : (((.str w :: a :: r : List DL.D).length : Nat) : Int) = 2
    · rw [decide_eq_true h]
      exact go (by rw [ar]; simp only [List.length_cons] at h ⊢; omega)
    · rw [decide_eq_false h]
      refine two _ ?_
      rw [decide_eq_false (by subst hs; decide : w ∉ TW), Bool.false_and]
      exact stop (by rw [ar]; intro z; apply h; simp only [List.length_cons] at z ⊢; omega)
  · rw [decide_eq_false (by simp [hs])]
    refine two _ ?_
    by_cases ht : w ∈ TW
    · have ar : arP w = 3 := by unfold arP; rw [if_pos ht]
      rw [decide_eq_true ht, Bool.true_and]
      by_cases h : (((.str w :: a :: r : List DL.D).length : Nat) : Int) = 3
      · rw [decide_eq_true h]
        exact go (by rw [ar]; simp only [List.length_cons] at h ⊢; omega)
      · rw [decide_eq_false h]
        exact stop (by rw [ar]; intro z; apply h; simp only [List.length_cons] at z ⊢; omega)
    · have ar : arP w = 0 := by unfold arP; rw [if_neg ht, if_neg hs]
      rw [decide_eq_false ht, Bool.false_and]
      exact stop (by rw [ar]; simp)
end K27

set_option maxHeartbeats 4000000
/-! K27h: programs as data, their types. -/
namespace K27
open PySem PySem.Spec DL KB
open L2 (atI ixN)
open PyProof.Rows hiding St signs

inductive W5 where
  | cat
  | or
  | swap
  | keyed
  | thn
def W5.s : W5 → Str
  | .cat => "cat"
  | .or => "or"
  | .swap => "swap"
  | .keyed => "keyed"
  | .thn => "then"
inductive Pg where
  | copy (t : Ty)
  | const (t : Ty) (x y : List Nat)
  | one (p : Pg)
  | two (w : W5) (p q : Pg)
def Pg.d : Pg → DL.D
  | .copy t => .tup [.str "copy", t.d]
  | .const t x y => .tup [.str "const", t.d, .str (S x), .str (S y)]
  | .one p => .tup [.str "star", p.d]
  | .two w p q => .tup [.str w.s, p.d, q.d]
def Pg.ok : Pg → Prop
  | .copy t => t.ok = true ∧ t.hi ≤ 30
  | .const t x y => t.ok = true ∧ t.hi ≤ 30 ∧ x.length ≤ 100 ∧ ∀ c ∈ x, okSign c = true
  | .one p => p.ok
  | .two _ p q => p.ok ∧ q.ok
def Pg.hi : Pg → Nat
  | .copy _ => 1
  | .const _ _ _ => 1
  | .one p => p.hi + 1
  | .two _ p q => max p.hi q.hi + 1
theorem w5_of {w : Str} (h : w ∈ TW) : ∃ u : W5, w = u.s := by
  simp at h
  rcases h with rfl | rfl | rfl | rfl | rfl
  · exact ⟨.cat, rfl⟩
  · exact ⟨.or, rfl⟩
  · exact ⟨.swap, rfl⟩
  · exact ⟨.keyed, rfl⟩
  · exact ⟨.thn, rfl⟩
theorem form_copy {v a : DL.D} (h : form v = .copy a) : v = .tup [.str "copy", a] := by
  unfold form at h
  split at h
  · split at h
    · rename_i e; cases h; rw [e]
    · split at h <;> cases h
  · split at h <;> cases h
  · split at h <;> cases h
  · cases h
theorem form_const {v a b c : DL.D} (h : form v = .const a b c) : v = .tup [.str "const", a, b, c] := by
  unfold form at h
  split at h
  · split at h
    · cases h
    · split at h <;> cases h
  · split at h <;> cases h
  · split at h
    · rename_i e; cases h; rw [e]
    · cases h
  · cases h
theorem text_ok100 {x : List Nat} (h : textB (.str (S x)) 100 = true) : x.length ≤ 100 ∧ ∀ c ∈ x, okSign c = true := by
  obtain ⟨a, b⟩ := text_ok h
  exact ⟨by omega, b⟩
def Pg.sz : Pg → Nat
  | .copy _ => 1
  | .const _ _ _ => 1
  | .one p => p.sz + 1
  | .two _ p q => p.sz + q.sz + 1
theorem pg_of : ∀ (n : Nat) (v : DL.D), sizeP n v ≠ 0 → ∃ p : Pg, v = p.d ∧ p.ok ∧ p.hi ≤ n ∧ p.sz ≤ sizeP n v
  | 0, v, h => absurd rfl h
  | n + 1, v, h => by
    unfold sizeP at h ⊢
    cases e : form v with
    | bad => rw [e] at h; exact absurd rfl h
    | copy a =>
      rw [e] at h
      have h : (if tyB a = true then 1 else 0) ≠ 0 := h
      obtain rfl := form_copy e
      by_cases hb : tyB a = true
      · obtain ⟨t, rfl, o, hi, _⟩ := ty_B hb
        refine ⟨.copy t, rfl, ⟨o, hi⟩, Nat.succ_le_succ (Nat.zero_le _), ?_⟩
        show 1 ≤ (if tyB t.d = true then 1 else 0)
        rw [if_pos hb]; exact Nat.le_refl _
      · rw [if_neg hb] at h; exact absurd rfl h
    | const a b c =>
      rw [e] at h
      have h : (if constB a b c = true then 1 else 0) ≠ 0 := h
      obtain rfl := form_const e
      by_cases hb : constB a b c = true
      · have hc := hb
        unfold constB at hb
        simp only [Bool.and_eq_true] at hb
        obtain ⟨⟨⟨h1, h2⟩, h3⟩, h4⟩ := hb
        obtain ⟨t, rfl, o, hi, _⟩ := ty_B h1
        obtain ⟨x, rfl, lx⟩ := text_S h2
        obtain ⟨y, rfl, ly⟩ := text_S h3
        refine ⟨.const t x y, rfl, ⟨o, hi, (text_ok100 h2).1, (text_ok100 h2).2⟩, Nat.succ_le_succ (Nat.zero_le _), ?_⟩
        show 1 ≤ (if constB t.d (.str (S x)) (.str (S y)) = true then 1 else 0)
        rw [if_pos hc]; exact Nat.le_refl _
      · rw [if_neg hb] at h; exact absurd rfl h
    | node r =>
      rw [e] at h
      have h : (if 0 ∈ r.map (sizeP n) then 0 else 1 + (r.map (sizeP n)).sum) ≠ 0 := h
      by_cases z : 0 ∈ r.map (sizeP n)
      · rw [if_pos z] at h; exact absurd rfl h
      · have each : ∀ x ∈ r, ∃ p : Pg, x = p.d ∧ p.ok ∧ p.hi ≤ n ∧ p.sz ≤ sizeP n x := fun x hx => pg_of n x fun y => z (List.mem_map.mpr ⟨x, hx, y⟩)
        have es : szF (sizeP n) (.node r) = 1 + (r.map (sizeP n)).sum := if_neg z
        rw [es]
        obtain ⟨w, rfl, hw⟩ := form_node e
        rcases hw with ⟨rfl, l⟩ | ⟨hw, l⟩
        · obtain ⟨a, rfl⟩ := List.length_eq_one_iff.mp l
          obtain ⟨p, rfl, o, hp, zp⟩ := each a (by simp)
          exact ⟨.one p, rfl, o, Nat.succ_le_succ hp, by simp [Pg.sz]; omega⟩
        · obtain ⟨a, b, rfl⟩ := len2 l
          obtain ⟨u, rfl⟩ := w5_of hw
          obtain ⟨p, rfl, o, hp, zp⟩ := each a (by simp)
          obtain ⟨q, rfl, o2, hq, zq⟩ := each b (by simp)
          exact ⟨.two u p q, rfl, ⟨o, o2⟩, by simp only [Pg.hi]; omega, by simp [Pg.sz]; omega⟩
/-! ### types -/
def tTn : Nat → List Nat → Ty
  | 0, x => .leaf false x
  | n + 1, x => if x.length ≤ 20 then .leaf false x else .pair false (.leaf false (x.take 20)) (tTn n (x.drop 20))
def tT (x : List Nat) : Ty := tTn 4 x
def src : Pg → Ty
  | .copy t => t
  | .const t _ _ => t
  | .one p => .star (src p)
  | .two .cat p q => .pair false (src p) (src q)
  | .two .or p q => .pair true (src p) (src q)
  | .two .swap p q => .pair false (src p) (src q)
  | .two .keyed p _ => .star (src p)
  | .two .thn p _ => src p
def vw : Pg → Ty
  | .copy t => t
  | .const _ x _ => tT x
  | .one p => .star (vw p)
  | .two .cat p q => .pair false (vw p) (vw q)
  | .two .or p q => .pair true (vw p) (vw q)
  | .two .swap p q => .pair false (vw q) (vw p)
  | .two .keyed p _ => .star (vw p)
  | .two .thn _ q => vw q
theorem leaf_ok {x : List Nat} (l : x.length ≤ 20) (h : ∀ c ∈ x, okSign c = true) : (Ty.leaf false x).ok = true := by
  show leafB (wd false) (.str (S x)) = true
  unfold leafB
  rw [if_pos (by rfl)]
  unfold textB
  simp only [Bool.and_eq_true, decide_eq_true_eq, List.all_eq_true]
  exact ⟨by rw [S_len]; omega, fun c hc => h c (by simpa using hc)⟩
theorem tT_ok : ∀ (n : Nat) (x : List Nat), x.length ≤ 20 * n + 20 → (∀ c ∈ x, okSign c = true) → (tTn n x).ok = true ∧ (tTn n x).hi ≤ n + 1
  | 0, x, l, h => ⟨leaf_ok (by omega) h, Nat.le_refl _⟩
  | n + 1, x, l, h => by
    unfold tTn
    by_cases z : x.length ≤ 20
    · rw [if_pos z]
      exact ⟨leaf_ok z h, by simp [Ty.hi]⟩
    · rw [if_neg z]
      obtain ⟨a, b⟩ := tT_ok n (x.drop 20) (by simp; omega) fun c hc => h c (List.mem_of_mem_drop hc)
      have c := leaf_ok (x := x.take 20) (by simp; omega) fun c hc => h c (List.mem_of_mem_take hc)
      refine ⟨?_, ?_⟩
      · show (Ty.ok _ && Ty.ok _) = true
        rw [a, c]; rfl
      · simp only [Ty.hi]; omega
theorem src_ok : ∀ {p : Pg}, p.ok → (src p).ok = true ∧ (src p).hi ≤ 29 + p.hi
  | .copy t, h => ⟨h.1, by have := h.2; simp only [src, Pg.hi]; omega⟩
  | .const t x y, h => ⟨h.1, by have := h.2.1; simp only [src, Pg.hi]; omega⟩
  | .one p, h => by
    obtain ⟨a, b⟩ := src_ok (p := p) h
    exact ⟨a, by simp only [src, Ty.hi, Pg.hi]; omega⟩
  | .two w p q, h => by
    obtain ⟨a, b⟩ := src_ok (p := p) h.1
    obtain ⟨a2, b2⟩ := src_ok (p := q) h.2
    cases w <;> simp only [src, Ty.hi, Pg.hi, Ty.ok, a, a2, Bool.and_self, true_and] <;> omega
theorem vw_ok : ∀ {p : Pg}, p.ok → (vw p).ok = true ∧ (vw p).hi ≤ 29 + p.hi
  | .copy t, h => ⟨h.1, by have := h.2; simp only [vw, Pg.hi]; omega⟩
  | .const t x y, h => by
    obtain ⟨a, b⟩ := tT_ok 4 x (by have := h.2.2.1; omega) h.2.2.2
    exact ⟨a, by simp only [vw, Pg.hi, tT]; omega⟩
  | .one p, h => by
    obtain ⟨a, b⟩ := vw_ok (p := p) h
    exact ⟨a, by simp only [vw, Ty.hi, Pg.hi]; omega⟩
  | .two w p q, h => by
    obtain ⟨a, b⟩ := vw_ok (p := p) h.1
    obtain ⟨a2, b2⟩ := vw_ok (p := q) h.2
    cases w <;> simp only [vw, Ty.hi, Pg.hi, Ty.ok, a, a2, Bool.and_self, true_and] <;> omega
def sp_tt (N : Nat) : DS1 := fun ds M Q => ∃ x : List Nat, ds = [.str (S x)] ∧ x.length ≤ 20 * N + 20 ∧ N ≤ 100 ∧ Q (tTn N x).d M
theorem rd_tt0 : ∀ ds M Q, sp_tt 0 ds M Q → ds.length = 1 ∧ r_type_of_text (fun _ _ _ => False) { nx := fun _ M' => Q .non M', rt := Q } (dstart N_type_of_text ds) M := by
  rintro _ M Q ⟨x, rfl, l, _, q⟩
  refine ⟨rfl, ?_⟩
  refine ⟨_, rfl, small (by rw [S_len]; omega), _, _, rfl, rfl, trivial, decide (((S x).length : Int) ≤ 20), rfl, ?_⟩
  rw [S_len]
  rw [decide_eq_true (by omega)]
  exact ⟨_, rfl, small (by simp), q⟩
theorem rd_tt (N : Nat) : ∀ ds M Q, sp_tt (N + 1) ds M Q → ds.length = 1 ∧ r_type_of_text (sp_tt N) { nx := fun _ M' => Q .non M', rt := Q } (dstart N_type_of_text ds) M := by
  rintro _ M Q ⟨x, rfl, l, hN, q⟩
  refine ⟨rfl, ?_⟩
  unfold tTn at q
  refine ⟨_, rfl, small (by rw [S_len]; omega), _, _, rfl, rfl, trivial, decide (((S x).length : Int) ≤ 20), rfl, ?_⟩
  rw [S_len]
  by_cases z : x.length ≤ 20
  · rw [decide_eq_true (by omega)]
    rw [if_pos z] at q
    exact ⟨_, rfl, small (by simp), q⟩
  · rw [decide_eq_false (by omega)]
    rw [if_neg z] at q
    have e20 : ((20 : Nat) : Int) = 20 := rfl
    refine ⟨_, rfl, 20, rfl, small (by rw [S_len]; omega), small (by simp), ?_⟩
    refine ⟨_, rfl, 20, rfl, small (by rw [S_len]; omega), ?_⟩
    rw [← e20, cutS_to x 20, cutS_from x 20]
    exact ⟨x.drop 20, rfl, by simp; omega, by omega, small (by simp), q⟩
theorem rd_ltt0 : ∀ ds M Q, sp_tt 0 ds M Q → ds.length = 1 ∧ r__law_lens_text_type (fun _ _ _ => False) { nx := fun _ M' => Q .non M', rt := Q } (dstart N__law_lens_text_type ds) M := by
  rintro _ M Q ⟨x, rfl, l, _, q⟩
  refine ⟨rfl, ?_⟩
  refine ⟨_, rfl, small (by rw [S_len]; omega), decide (((S x).length : Int) < 21), rfl, ?_⟩
  rw [S_len]
  rw [decide_eq_true (by omega)]
  exact ⟨_, rfl, small (by simp), q⟩
theorem rd_ltt (N : Nat) : ∀ ds M Q, sp_tt (N + 1) ds M Q → ds.length = 1 ∧ r__law_lens_text_type (sp_tt N) { nx := fun _ M' => Q .non M', rt := Q } (dstart N__law_lens_text_type ds) M := by
  rintro _ M Q ⟨x, rfl, l, hN, q⟩
  refine ⟨rfl, ?_⟩
  unfold tTn at q
  refine ⟨_, rfl, small (by rw [S_len]; omega), decide (((S x).length : Int) < 21), rfl, ?_⟩
  rw [S_len]
  by_cases z : x.length ≤ 20
  · rw [decide_eq_true (by omega)]
    rw [if_pos z] at q
    exact ⟨_, rfl, small (by simp), q⟩
  · rw [decide_eq_false (by omega)]
    rw [if_neg z] at q
    have e20 : ((20 : Nat) : Int) = 20 := rfl
    refine ⟨_, rfl, 20, rfl, small (by rw [S_len]; omega), small (by simp), ?_⟩
    refine ⟨_, rfl, 20, rfl, small (by rw [S_len]; omega), ?_⟩
    rw [← e20, cutS_to x 20, cutS_from x 20]
    exact ⟨x.drop 20, rfl, by simp; omega, by omega, small (by simp), q⟩

def sp_types (N : Nat) : DS1 := fun ds M Q => ∃ p : Pg, ds = [p.d] ∧ p.ok ∧ p.hi < N ∧ Q (.tup [(src p).d, (vw p).d]) M
theorem rd_types (N : Nat) : ∀ ds M Q, sp_types (N + 1) ds M Q → ds.length = 1 ∧ r_types_of (sp_tt 4) (sp_types N) { nx := fun _ M' => Q .non M', rt := Q } (dstart N_types_of ds) M := by
  rintro _ M Q ⟨p, rfl, o, hN, q⟩
  refine ⟨rfl, ?_⟩
  cases p with
  | copy t =>
    refine ⟨_, rfl, _, _, rfl, ix0, ?_⟩
    refine ⟨_, rfl, decide (("copy" : Str) = "copy"), rfl, ?_⟩
    rw [decide_eq_true (by rfl)]
    exact ⟨_, rfl, _, _, rfl, ix1, _, rfl, _, _, rfl, ix1, small (by simp), q⟩
  | const t x y =>
    refine ⟨_, rfl, _, _, rfl, ix0, ?_⟩
    refine ⟨_, rfl, decide (("const" : Str) = "copy"), rfl, ?_⟩
    rw [decide_eq_false (by decide)]
    refine ⟨_, rfl, decide (("const" : Str) = "const"), rfl, ?_⟩
    rw [decide_eq_true (by rfl)]
    exact ⟨_, rfl, _, _, rfl, ix1, _, rfl, _, _, rfl, ix2, x, rfl, by have := o.2.2.1; omega, by decide, small (by simp), q⟩
  | one p =>
    simp only [Pg.hi] at hN
    refine ⟨_, rfl, _, _, rfl, ix0, ?_⟩
    refine ⟨_, rfl, decide (("star" : Str) = "copy"), rfl, ?_⟩
    rw [decide_eq_false (by decide)]
    refine ⟨_, rfl, decide (("star" : Str) = "const"), rfl, ?_⟩
    rw [decide_eq_false (by decide)]
    refine ⟨_, rfl, _, _, rfl, ix1, p, rfl, o, by omega, _, rfl, rfl, _, _, rfl, _, _, rfl, rfl, ?_⟩
    show dOp (DL.rInD false) (dSlot 1) (dC v_ROWED) _ M _
    refine op_in_texts ["star", "keyed"] rfl (fun Q' h => ⟨_, rfl, h⟩) ⟨true, by rfl, ?_⟩
    exact ⟨_, rfl, small (by simp), _, rfl, small (by simp), small (by simp), q⟩
  | two w p p2 =>
    simp only [Pg.hi] at hN
    obtain ⟨o1, o2⟩ := o
    cases w with
    | cat =>
      refine ⟨_, rfl, _, _, rfl, ix0, ?_⟩
      refine ⟨_, rfl, decide (("cat" : Str) = "copy"), rfl, ?_⟩
      rw [decide_eq_false (by decide)]
      refine ⟨_, rfl, decide (("cat" : Str) = "const"), rfl, ?_⟩
      rw [decide_eq_false (by decide)]
      refine ⟨_, rfl, _, _, rfl, ix1, p, rfl, o1, by omega, _, rfl, rfl, _, _, rfl, _, _, rfl, rfl, ?_⟩
      show dOp (DL.rInD false) (dSlot 1) (dC v_ROWED) _ M _
      refine op_in_texts ["star", "keyed"] rfl (fun Q' h => ⟨_, rfl, h⟩) ⟨false, by rfl, ?_⟩
      refine ⟨_, rfl, _, _, rfl, ix2, p2, rfl, o2, by omega, _, rfl, rfl, _, _, rfl, _, _, rfl, rfl, ?_⟩
      refine ⟨_, rfl, decide (("cat" : Str) = "cat"), rfl, ?_⟩
      rw [decide_eq_true (by rfl)]
      exact ⟨_, rfl, _, rfl, small (by simp), _, rfl, _, rfl, small (by simp), small (by simp), q⟩
    | or =>
      refine ⟨_, rfl, _, _, rfl, ix0, ?_⟩
      refine ⟨_, rfl, decide (("or" : Str) = "copy"), rfl, ?_⟩
      rw [decide_eq_false (by decide)]
      refine ⟨_, rfl, decide (("or" : Str) = "const"), rfl, ?_⟩
      rw [decide_eq_false (by decide)]
      refine ⟨_, rfl, _, _, rfl, ix1, p, rfl, o1, by omega, _, rfl, rfl, _, _, rfl, _, _, rfl, rfl, ?_⟩
      show dOp (DL.rInD false) (dSlot 1) (dC v_ROWED) _ M _
      refine op_in_texts ["star", "keyed"] rfl (fun Q' h => ⟨_, rfl, h⟩) ⟨false, by rfl, ?_⟩
      refine ⟨_, rfl, _, _, rfl, ix2, p2, rfl, o2, by omega, _, rfl, rfl, _, _, rfl, _, _, rfl, rfl, ?_⟩
      refine ⟨_, rfl, decide (("or" : Str) = "cat"), rfl, ?_⟩
      rw [decide_eq_false (by decide)]
      refine ⟨_, rfl, decide (("or" : Str) = "swap"), rfl, ?_⟩
      rw [decide_eq_false (by decide)]
      refine ⟨_, rfl, decide (("or" : Str) = "or"), rfl, ?_⟩
      rw [decide_eq_true (by rfl)]
      exact ⟨_, rfl, _, rfl, small (by simp), _, rfl, _, rfl, small (by simp), small (by simp), q⟩
    | swap =>
      refine ⟨_, rfl, _, _, rfl, ix0, ?_⟩
      refine ⟨_, rfl, decide (("swap" : Str) = "copy"), rfl, ?_⟩
      rw [decide_eq_false (by decide)]
      refine ⟨_, rfl, decide (("swap" : Str) = "const"), rfl, ?_⟩
      rw [decide_eq_false (by decide)]
      refine ⟨_, rfl, _, _, rfl, ix1, p, rfl, o1, by omega, _, rfl, rfl, _, _, rfl, _, _, rfl, rfl, ?_⟩
      show dOp (DL.rInD false) (dSlot 1) (dC v_ROWED) _ M _
      refine op_in_texts ["star", "keyed"] rfl (fun Q' h => ⟨_, rfl, h⟩) ⟨false, by rfl, ?_⟩
      refine ⟨_, rfl, _, _, rfl, ix2, p2, rfl, o2, by omega, _, rfl, rfl, _, _, rfl, _, _, rfl, rfl, ?_⟩
      refine ⟨_, rfl, decide (("swap" : Str) = "cat"), rfl, ?_⟩
      rw [decide_eq_false (by decide)]
      refine ⟨_, rfl, decide (("swap" : Str) = "swap"), rfl, ?_⟩
      rw [decide_eq_true (by rfl)]
      exact ⟨_, rfl, _, rfl, small (by simp), _, rfl, _, rfl, small (by simp), small (by simp), q⟩
    | keyed =>
      refine ⟨_, rfl, _, _, rfl, ix0, ?_⟩
      refine ⟨_, rfl, decide (("keyed" : Str) = "copy"), rfl, ?_⟩
      rw [decide_eq_false (by decide)]
      refine ⟨_, rfl, decide (("keyed" : Str) = "const"), rfl, ?_⟩
      rw [decide_eq_false (by decide)]
      refine ⟨_, rfl, _, _, rfl, ix1, p, rfl, o1, by omega, _, rfl, rfl, _, _, rfl, _, _, rfl, rfl, ?_⟩
      show dOp (DL.rInD false) (dSlot 1) (dC v_ROWED) _ M _
      refine op_in_texts ["star", "keyed"] rfl (fun Q' h => ⟨_, rfl, h⟩) ⟨true, by rfl, ?_⟩
      exact ⟨_, rfl, small (by simp), _, rfl, small (by simp), small (by simp), q⟩
    | thn =>
      refine ⟨_, rfl, _, _, rfl, ix0, ?_⟩
      refine ⟨_, rfl, decide (("then" : Str) = "copy"), rfl, ?_⟩
      rw [decide_eq_false (by decide)]
      refine ⟨_, rfl, decide (("then" : Str) = "const"), rfl, ?_⟩
      rw [decide_eq_false (by decide)]
      refine ⟨_, rfl, _, _, rfl, ix1, p, rfl, o1, by omega, _, rfl, rfl, _, _, rfl, _, _, rfl, rfl, ?_⟩
      show dOp (DL.rInD false) (dSlot 1) (dC v_ROWED) _ M _
      refine op_in_texts ["star", "keyed"] rfl (fun Q' h => ⟨_, rfl, h⟩) ⟨false, by rfl, ?_⟩
      refine ⟨_, rfl, _, _, rfl, ix2, p2, rfl, o2, by omega, _, rfl, rfl, _, _, rfl, _, _, rfl, rfl, ?_⟩
      refine ⟨_, rfl, decide (("then" : Str) = "cat"), rfl, ?_⟩
      rw [decide_eq_false (by decide)]
      refine ⟨_, rfl, decide (("then" : Str) = "swap"), rfl, ?_⟩
      rw [decide_eq_false (by decide)]
      refine ⟨_, rfl, decide (("then" : Str) = "or"), rfl, ?_⟩
      rw [decide_eq_false (by decide)]
      exact ⟨_, rfl, _, rfl, small (by simp), q⟩
theorem rd_ltypes (N : Nat) : ∀ ds M Q, sp_types (N + 1) ds M Q → ds.length = 1 ∧ r__law_lens_types (sp_tt 4) (sp_types N) { nx := fun _ M' => Q .non M', rt := Q } (dstart N__law_lens_types ds) M := by
  rintro _ M Q ⟨p, rfl, o, hN, q⟩
  refine ⟨rfl, ?_⟩
  cases p with
  | copy t =>
    refine ⟨_, rfl, _, _, rfl, ix0, ?_⟩
    refine ⟨_, rfl, small (by simp), in_texts (neg := false) (ws := ["copy", "const"]) ⟨true, by rfl, ?_⟩⟩
    refine ⟨_, rfl, _, _, rfl, ix1, ?_⟩
    refine ⟨_, rfl, decide (("copy" : Str) = "copy"), rfl, ?_⟩
    rw [decide_eq_true (by rfl)]
    exact ⟨_, rfl, _, _, rfl, ix1, small (by simp), q⟩
  | const t x y =>
    refine ⟨_, rfl, _, _, rfl, ix0, ?_⟩
    refine ⟨_, rfl, small (by simp), in_texts (neg := false) (ws := ["copy", "const"]) ⟨true, by rfl, ?_⟩⟩
    refine ⟨_, rfl, _, _, rfl, ix1, ?_⟩
    refine ⟨_, rfl, decide (("const" : Str) = "copy"), rfl, ?_⟩
    rw [decide_eq_false (by decide)]
    exact ⟨_, rfl, _, _, rfl, ix2, x, rfl, by have := o.2.2.1; omega, by decide, small (by simp), q⟩
  | one p =>
    simp only [Pg.hi] at hN
    refine ⟨_, rfl, _, _, rfl, ix0, ?_⟩
    refine ⟨_, rfl, small (by simp), in_texts (neg := false) (ws := ["copy", "const"]) ⟨false, by rfl, ?_⟩⟩
    refine ⟨_, rfl, _, _, rfl, ix1, p, rfl, o, by omega, _, rfl, rfl, _, _, rfl, _, _, rfl, rfl, ?_⟩
    refine ⟨_, rfl, small (by simp), in_texts (neg := false) (ws := ["star", "keyed"]) ⟨true, by rfl, ?_⟩⟩
    exact ⟨_, rfl, small (by simp), _, rfl, small (by simp), small (by simp), q⟩
  | two w p p2 =>
    simp only [Pg.hi] at hN
    obtain ⟨o1, o2⟩ := o
    cases w with
    | cat =>
      refine ⟨_, rfl, _, _, rfl, ix0, ?_⟩
      refine ⟨_, rfl, small (by simp), in_texts (neg := false) (ws := ["copy", "const"]) ⟨false, by rfl, ?_⟩⟩
      refine ⟨_, rfl, _, _, rfl, ix1, p, rfl, o1, by omega, _, rfl, rfl, _, _, rfl, _, _, rfl, rfl, ?_⟩
      refine ⟨_, rfl, small (by simp), in_texts (neg := false) (ws := ["star", "keyed"]) ⟨false, by rfl, ?_⟩⟩
      refine ⟨_, rfl, _, _, rfl, ix2, p2, rfl, o2, by omega, _, rfl, rfl, _, _, rfl, _, _, rfl, rfl, ?_⟩
      refine ⟨_, rfl, decide (("cat" : Str) = "then"), rfl, ?_⟩
      rw [decide_eq_false (by decide)]
      refine ⟨_, rfl, decide (("cat" : Str) = "swap"), rfl, ?_⟩
      rw [decide_eq_false (by decide)]
      exact ⟨_, rfl, _, rfl, _, rfl, small (by simp), _, rfl, _, rfl, _, rfl, small (by simp), small (by simp), q⟩
    | or =>
      refine ⟨_, rfl, _, _, rfl, ix0, ?_⟩
      refine ⟨_, rfl, small (by simp), in_texts (neg := false) (ws := ["copy", "const"]) ⟨false, by rfl, ?_⟩⟩
      refine ⟨_, rfl, _, _, rfl, ix1, p, rfl, o1, by omega, _, rfl, rfl, _, _, rfl, _, _, rfl, rfl, ?_⟩
      refine ⟨_, rfl, small (by simp), in_texts (neg := false) (ws := ["star", "keyed"]) ⟨false, by rfl, ?_⟩⟩
      refine ⟨_, rfl, _, _, rfl, ix2, p2, rfl, o2, by omega, _, rfl, rfl, _, _, rfl, _, _, rfl, rfl, ?_⟩
      refine ⟨_, rfl, decide (("or" : Str) = "then"), rfl, ?_⟩
      rw [decide_eq_false (by decide)]
      refine ⟨_, rfl, decide (("or" : Str) = "swap"), rfl, ?_⟩
      rw [decide_eq_false (by decide)]
      exact ⟨_, rfl, _, rfl, _, rfl, small (by simp), _, rfl, _, rfl, _, rfl, small (by simp), small (by simp), q⟩
    | swap =>
      refine ⟨_, rfl, _, _, rfl, ix0, ?_⟩
      refine ⟨_, rfl, small (by simp), in_texts (neg := false) (ws := ["copy", "const"]) ⟨false, by rfl, ?_⟩⟩
      refine ⟨_, rfl, _, _, rfl, ix1, p, rfl, o1, by omega, _, rfl, rfl, _, _, rfl, _, _, rfl, rfl, ?_⟩
      refine ⟨_, rfl, small (by simp), in_texts (neg := false) (ws := ["star", "keyed"]) ⟨false, by rfl, ?_⟩⟩
      refine ⟨_, rfl, _, _, rfl, ix2, p2, rfl, o2, by omega, _, rfl, rfl, _, _, rfl, _, _, rfl, rfl, ?_⟩
      refine ⟨_, rfl, decide (("swap" : Str) = "then"), rfl, ?_⟩
      rw [decide_eq_false (by decide)]
      refine ⟨_, rfl, decide (("swap" : Str) = "swap"), rfl, ?_⟩
      rw [decide_eq_true (by rfl)]
      exact ⟨_, rfl, _, rfl, small (by simp), _, rfl, _, rfl, small (by simp), small (by simp), q⟩
    | keyed =>
      refine ⟨_, rfl, _, _, rfl, ix0, ?_⟩
      refine ⟨_, rfl, small (by simp), in_texts (neg := false) (ws := ["copy", "const"]) ⟨false, by rfl, ?_⟩⟩
      refine ⟨_, rfl, _, _, rfl, ix1, p, rfl, o1, by omega, _, rfl, rfl, _, _, rfl, _, _, rfl, rfl, ?_⟩
      refine ⟨_, rfl, small (by simp), in_texts (neg := false) (ws := ["star", "keyed"]) ⟨true, by rfl, ?_⟩⟩
      exact ⟨_, rfl, small (by simp), _, rfl, small (by simp), small (by simp), q⟩
    | thn =>
      refine ⟨_, rfl, _, _, rfl, ix0, ?_⟩
      refine ⟨_, rfl, small (by simp), in_texts (neg := false) (ws := ["copy", "const"]) ⟨false, by rfl, ?_⟩⟩
      refine ⟨_, rfl, _, _, rfl, ix1, p, rfl, o1, by omega, _, rfl, rfl, _, _, rfl, _, _, rfl, rfl, ?_⟩
      refine ⟨_, rfl, small (by simp), in_texts (neg := false) (ws := ["star", "keyed"]) ⟨false, by rfl, ?_⟩⟩
      refine ⟨_, rfl, _, _, rfl, ix2, p2, rfl, o2, by omega, _, rfl, rfl, _, _, rfl, _, _, rfl, rfl, ?_⟩
      refine ⟨_, rfl, decide (("then" : Str) = "then"), rfl, ?_⟩
      rw [decide_eq_true (by rfl)]
      exact ⟨_, rfl, _, rfl, small (by simp), q⟩
end K27

set_option maxHeartbeats 4000000
/-! K27i: whether a value is a program, both ways. -/
namespace K27
open PySem PySem.Spec DL KB
open L2 (atI ixN)
open PyProof.Rows hiding St signs

theorem w5_inj {a b : W5} (h : a.s = b.s) : a = b := by
  cases a <;> cases b <;> first | rfl | exact absurd h (by decide)
theorem pg_inj : ∀ {p q : Pg}, p.d = q.d → p = q
  | .copy t, .copy u, h => by
    simp only [Pg.d, D.tup.injEq, List.cons.injEq, and_true, true_and] at h
    rw [ty_inj h]
  | .const t x y, .const u x2 y2, h => by
    simp only [Pg.d, D.tup.injEq, List.cons.injEq, D.str.injEq, and_true, true_and] at h
    rw [ty_inj h.1, S_inj h.2.1, S_inj h.2.2]
  | .one p, .one q, h => by
    simp only [Pg.d, D.tup.injEq, List.cons.injEq, and_true, true_and] at h
    rw [pg_inj h]
  | .two w a b, .two w2 a2 b2, h => by
    simp only [Pg.d, D.tup.injEq, List.cons.injEq, D.str.injEq, and_true] at h
    rw [w5_inj h.1, pg_inj h.2.1, pg_inj h.2.2]
  | .copy t, .one q, h => by
    simp only [Pg.d, D.tup.injEq, List.cons.injEq, D.str.injEq, and_true] at h
    exact absurd h.1 (by decide)
  | .one q, .copy t, h => by
    simp only [Pg.d, D.tup.injEq, List.cons.injEq, D.str.injEq, and_true] at h
    exact absurd h.1 (by decide)
  | .copy t, .const _ _ _, h => by simp [Pg.d] at h
  | .copy t, .two _ _ _, h => by simp [Pg.d] at h
  | .const _ _ _, .copy _, h => by simp [Pg.d] at h
  | .const _ _ _, .one _, h => by simp [Pg.d] at h
  | .const _ _ _, .two _ _ _, h => by simp [Pg.d] at h
  | .one _, .const _ _ _, h => by simp [Pg.d] at h
  | .one _, .two _ _ _, h => by simp [Pg.d] at h
  | .two _ _ _, .copy _, h => by simp [Pg.d] at h
  | .two _ _ _, .const _ _ _, h => by simp [Pg.d] at h
  | .two _ _ _, .one _, h => by simp [Pg.d] at h
def top (p : Pg) : Bool := tyB (src p).d && tyB (vw p).d
def inn : Pg → List Pg
  | .copy _ => []
  | .const _ _ _ => []
  | .one p => [p]
  | .two _ p q => [p, q]
def fineP : Pg → Bool
  | .copy t => top (.copy t)
  | .const t x y => top (.const t x y)
  | .one p => top (.one p) && fineP p
  | .two w p q => top (.two w p q) && (fineP p && fineP q)
theorem fineP_eq (p : Pg) : fineP p = (top p && (inn p).all fineP) := by
  cases p <;> simp [fineP, inn]
theorem inn_ok {p x : Pg} (h : x ∈ inn p) (o : p.ok) : x.ok ∧ x.hi + 1 ≤ p.hi := by
  cases p with
  | copy t => simp [inn] at h
  | const t x y => simp [inn] at h
  | one p =>
    simp [inn] at h
    subst h
    exact ⟨o, Nat.le_refl _⟩
  | two w p q =>
    simp [inn] at h
    rcases h with rfl | rfl
    · exact ⟨o.1, by simp only [Pg.hi]; omega⟩
    · exact ⟨o.2, by simp only [Pg.hi]; omega⟩
theorem inn_len (p : Pg) : (inn p).length ≤ 2 := by cases p <;> simp [inn]
open Classical in
noncomputable def fineV (v : DL.D) : Bool := decide (∃ p : Pg, v = p.d ∧ fineP p = true)
open Classical in
theorem fineV_eq (p : Pg) : fineV p.d = fineP p := by
  unfold fineV
  cases h : fineP p with
  | true => exact decide_eq_true ⟨p, rfl, h⟩
  | false =>
    refine decide_eq_false ?_
    rintro ⟨q, e, hq⟩
    rw [pg_inj e, hq] at h
    cases h
def sp_pin : DS1 := fun ds M Q => ∃ p : Pg, ds = [p.d] ∧ Q (.tup ((inn p).map Pg.d)) M
theorem rd_pin : ∀ ds M Q, sp_pin ds M Q → ds.length = 1 ∧ r_programs_in { nx := fun _ M' => Q .non M', rt := Q } (dstart N_programs_in ds) M := by
  rintro _ M Q ⟨p, rfl, q⟩
  refine ⟨rfl, ?_⟩
  have cut : ∀ (x : DL.D) (r : List DL.D) (ρ : Rho), ρ[0]? = some (some (.tup (x :: r))) → Q (.tup r) M → dSl true (dSlot 0) (dPart (dC (.int 1))) dNoPart ρ M Q := by
    intro x r ρ h0 g
    refine ⟨_, h0, 1, rfl, ?_⟩
    show Q (.tup (DL.cutD (x :: r) (some 1) none)) M
    rw [cut1]
    exact g
  cases p with
  | copy t => exact ⟨_, rfl, _, _, rfl, ix0, small (by simp), in_texts (neg := false) (ws := ["copy", "const"]) ⟨true, by rfl, small (by simp), q⟩⟩
  | const t x y => exact ⟨_, rfl, _, _, rfl, ix0, small (by simp), in_texts (neg := false) (ws := ["copy", "const"]) ⟨true, by rfl, small (by simp), q⟩⟩
  | one p => exact ⟨_, rfl, _, _, rfl, ix0, small (by simp), in_texts (neg := false) (ws := ["copy", "const"]) ⟨false, by rfl, cut _ _ _ rfl q⟩⟩
  | two w p p2 => exact ⟨_, rfl, _, _, rfl, ix0, small (by simp), in_texts (neg := false) (ws := ["copy", "const"]) ⟨false, by cases w <;> rfl, cut _ _ _ rfl q⟩⟩
/-- all of some values have a quality -/
theorem all_of {t te : DTE} {i : Nat} {ρ : Rho} {M : Mp} {Q : DK} {items : List DL.D} {vs : List Nat} (f : DL.D → Bool) (hi : i < (dwipe ρ vs).length)
    (ht : ∀ R : List DL.D → (Mp → Prop) → Mp → Prop, R items (fun _ => True) M → dIt t ρ M R) (l : items.length ≤ 1000)
    (step : ∀ x ∈ items, ∀ K1 : DK, K1 (.bl (f x)) M → te ((dwipe ρ vs).set i (some x)) M K1) (q : Q (.bl (items.all f)) M) :
    dCB rAllD (dCons (dLc true (dIt t) (dgName i) dYes te vs) dNil) ρ M Q := by
  show dIt t ρ M fun items G M1 => lcW (dgName i) dYes te G (dwipe ρ vs) (fun ds M2 => newL true ds M2 fun d M3 => rAllD [d] M3 Q) items [] M1
  refine ht _ ?_
  refine lc_map (fun d => .bl (f d)) (by exact trivial) _ [] ?_ (small (by simp; omega)) ?_
  · intro x hx K1 K2 hk
    exact step x hx K1 hk
  · refine newTr ⟨_, items.map f, rfl, ?_, ?_⟩
    · show some _ = some _
      rw [List.nil_append, List.map_map]
      rfl
    · rw [List.all_map]
      exact q
theorem tyB2 (p : Pg) : ([(src p).d, (vw p).d].all tyB) = top p := by simp [top]
def sp_fine (N : Nat) : DS1 := fun ds M Q => ∃ p : Pg, ds = [p.d] ∧ p.ok ∧ p.hi < N ∧ p.hi < 30 ∧ Q (.bl (fineP p)) M
theorem rd_fine (N : Nat) : ∀ ds M Q, sp_fine (N + 1) ds M Q → ds.length = 1 ∧ r_are_types_fine (sp_types 30) sp_type sp_pin (sp_fine N) { nx := fun _ M' => Q .non M', rt := Q } (dstart N_are_types_fine ds) M := by
  rintro _ M Q ⟨p, rfl, o, hN, h30, q⟩
  refine ⟨rfl, ?_⟩
  obtain ⟨so, sh⟩ := src_ok o
  obtain ⟨vo, vh⟩ := vw_ok o
  rw [fineP_eq] at q
  show dCB rAllD (dCons (dLc true (dIt (dCall1 (sp_types 30) (dCons (dSlot 0) dNil))) (dgName 1) dYes (dCall1 sp_type (dCons (dSlot 1) dNil)) [1]) dNil) _ _ _
  refine all_of (items := [(src p).d, (vw p).d]) tyB (by exact (by decide : 1 < 2)) (fun R h => ⟨_, rfl, p, rfl, o, h30, h⟩) (by simp) ?_ ?_
  · intro x hx K1 hk
    refine ⟨_, rfl, x, rfl, ?_, ?_, hk⟩
    · simp at hx
      rcases hx with rfl | rfl
      · exact ty_gd so
      · exact ty_gd vo
    · simp at hx
      rcases hx with rfl | rfl
      · rw [ty_dep]; omega
      · rw [ty_dep]; omega
  · rw [tyB2]
    refine ⟨_, rfl, ?_⟩
    cases h : top p with
    | false =>
      rw [h] at q
      exact q
    | true =>
      rw [h, Bool.true_and] at q
      show dCB rAllD (dCons (dLc true (dIt (dCall1 sp_pin (dCons (dSlot 0) dNil))) (dgName 1) dYes (dCall1 (sp_fine N) (dCons (dSlot 1) dNil)) [1]) dNil) _ _ _
      refine all_of (items := (inn p).map Pg.d) fineV (by exact (by decide : 1 < 2)) (fun R h => ⟨_, rfl, p, rfl, h⟩) (by have := inn_len p; simp; omega) ?_ ?_
      · intro x hx K1 hk
        obtain ⟨y, hy, rfl⟩ := List.mem_map.mp hx
        rw [fineV_eq] at hk
        obtain ⟨oy, hh⟩ := inn_ok hy o
        exact ⟨_, rfl, y, rfl, oy, by omega, by omega, hk⟩
      · rw [List.all_map]
        have e : (fineV ∘ Pg.d) = fineP := funext fineV_eq
        rw [e]
        exact q
noncomputable def isP (v : DL.D) : Bool := decide (0 < sizeP 20 v ∧ sizeP 20 v ≤ 80) && fineV v
def sp_isp : DS1 := fun ds M Q => ∃ v, ds = [v] ∧ gd v = true ∧ dep v ≤ 62 ∧ Q (.bl (isP v)) M
theorem rd_isp : ∀ ds M Q, sp_isp ds M Q → ds.length = 1 ∧ r_is_program (sp_fine 30) (sp_many 21) { nx := fun _ M' => Q .non M', rt := Q } (dstart N_is_program ds) M := by
  rintro _ M Q ⟨v, rfl, gv, dv, q⟩
  refine ⟨rfl, ?_⟩
  refine ⟨_, rfl, v, 20, rfl, by decide, gv, dv, _, _, rfl, rfl, trivial, decide ((0 : Int) < (cut80 (sizeP 20 v) : Nat)), rfl, ?_⟩
  unfold isP at q
  by_cases h : 0 < sizeP 20 v ∧ sizeP 20 v ≤ 80
  · rw [decide_eq_true h, Bool.true_and] at q
    have e : cut80 (sizeP 20 v) = sizeP 20 v := if_pos h.2
    rw [e, decide_eq_true (by omega)]
    obtain ⟨p, rfl, o, hp, _⟩ := pg_of 20 v (by omega)
    rw [fineV_eq] at q
    exact ⟨_, rfl, p, rfl, o, by omega, by omega, q⟩
  · rw [decide_eq_false h] at q
    have e : cut80 (sizeP 20 v) = 0 := by
      unfold cut80
      split
      · omega
      · rfl
    rw [e, decide_eq_false (by omega)]
    exact q
def sp_chk : DSp := fun ds M Q E => ∃ v, ds = [v] ∧ gd v = true ∧ dep v ≤ 62 ∧ (isP v = true → Q .non M) ∧ (isP v = false → E "BadLens" v M)
theorem rd_chk : ∀ ds M Q E, sp_chk ds M Q E → ds.length = 1 ∧ r_check_program E sp_isp { nx := fun _ M' => Q .non M', rt := Q } (dstart N_check_program ds) M := by
  rintro _ M Q E ⟨v, rfl, gv, dv, q1, q2⟩
  refine ⟨rfl, ?_⟩
  refine ⟨_, rfl, v, rfl, gv, dv, isP v, rfl, ?_⟩
  cases h : isP v with
  | true => exact q1 h
  | false => exact ⟨_, rfl, q2 h⟩
/-- what it tells of a program: its source type, its view type -/
def sp_told (f : Pg → Ty) : DSp := fun ds M Q E => ∃ v, ds = [v] ∧ gd v = true ∧ dep v ≤ 62 ∧ (isP v = true → ∀ p : Pg, v = p.d → p.ok → p.hi ≤ 20 → p.sz ≤ 80 → fineP p = true → Q (f p).d M) ∧ (isP v = false → E "BadLens" v M)
theorem isP_pg {v : DL.D} (h : isP v = true) : ∃ p : Pg, v = p.d ∧ p.ok ∧ p.hi ≤ 20 ∧ p.sz ≤ 80 ∧ fineP p = true := by
  unfold isP at h
  simp only [Bool.and_eq_true, decide_eq_true_eq] at h
  obtain ⟨p, rfl, o, hp, z⟩ := pg_of 20 v (by omega)
  rw [fineV_eq] at h
  exact ⟨p, rfl, o, hp, by omega, h.2⟩
theorem rd_stype : ∀ ds M Q E, sp_told src ds M Q E → ds.length = 1 ∧ r_source_type E sp_chk (sp_types 30) { nx := fun _ M' => Q .non M', rt := Q } (dstart N_source_type ds) M := by
  rintro _ M Q E ⟨v, rfl, gv, dv, q1, q2⟩
  refine ⟨rfl, ?_⟩
  refine ⟨_, rfl, v, rfl, gv, dv, fun h => ?_, q2⟩
  obtain ⟨p, rfl, o, hp, z, f⟩ := isP_pg h
  exact ⟨_, rfl, p, rfl, o, by omega, _, _, rfl, ix0, q1 h p rfl o hp z f⟩
theorem rd_vtype : ∀ ds M Q E, sp_told vw ds M Q E → ds.length = 1 ∧ r_view_type E sp_chk (sp_types 30) { nx := fun _ M' => Q .non M', rt := Q } (dstart N_view_type ds) M := by
  rintro _ M Q E ⟨v, rfl, gv, dv, q1, q2⟩
  refine ⟨rfl, ?_⟩
  refine ⟨_, rfl, v, rfl, gv, dv, fun h => ?_, q2⟩
  obtain ⟨p, rfl, o, hp, z, f⟩ := isP_pg h
  exact ⟨_, rfl, p, rfl, o, by omega, _, _, rfl, ix1, q1 h p rfl o hp z f⟩
/-! ### the law's own parts -/
def itm (x : List DL.D × Pg) : DL.D := .tup [.tup x.1, x.2.d]
def lq : Pg → List DL.D → List (List DL.D × Pg)
  | .copy t, ad => [(ad, .copy t)]
  | .const t x y, ad => [(ad, .const t x y)]
  | .one p, ad => lq p (ad ++ [.int 0]) ++ [(ad, .one p)]
  | .two w p q, ad => lq p (ad ++ [.int 0]) ++ lq q (ad ++ [.int 1]) ++ [(ad, .two w p q)]
theorem lq_len : ∀ (p : Pg) (ad : List DL.D), (lq p ad).length = p.sz
  | .copy t, ad => rfl
  | .const t x y, ad => rfl
  | .one p, ad => by simp [lq, Pg.sz, lq_len p]
  | .two w p q, ad => by simp [lq, Pg.sz, lq_len p, lq_len q]; omega
theorem lq_ok : ∀ {p : Pg} {ad : List DL.D}, p.ok → ∀ x ∈ lq p ad, x.2.ok ∧ x.2.hi ≤ p.hi
  | .copy t, ad, o => by simp only [lq, List.mem_singleton]; rintro x rfl; exact ⟨o, Nat.le_refl _⟩
  | .const t x y, ad, o => by simp only [lq, List.mem_singleton]; rintro x rfl; exact ⟨o, Nat.le_refl _⟩
  | .one p, ad, o => by
    intro x hx
    simp only [lq, List.mem_append, List.mem_singleton] at hx
    rcases hx with hx | rfl
    · obtain ⟨a, b⟩ := lq_ok (p := p) o x hx
      exact ⟨a, by simp only [Pg.hi]; omega⟩
    · exact ⟨o, Nat.le_refl _⟩
  | .two w p q, ad, o => by
    intro x hx
    simp only [lq, List.mem_append, List.mem_singleton] at hx
    rcases hx with (hx | hx) | rfl
    · obtain ⟨a, b⟩ := lq_ok (p := p) o.1 x hx
      exact ⟨a, by simp only [Pg.hi]; omega⟩
    · obtain ⟨a, b⟩ := lq_ok (p := q) o.2 x hx
      exact ⟨a, by simp only [Pg.hi]; omega⟩
    · exact ⟨o, Nat.le_refl _⟩
theorem lq_fine : ∀ (p : Pg) (ad : List DL.D), ((lq p ad).all fun x => top x.2) = fineP p
  | .copy t, ad => by simp [lq, fineP]
  | .const t x y, ad => by simp [lq, fineP]
  | .one p, ad => by simp only [lq, fineP, List.all_append, lq_fine p, List.all_cons, List.all_nil, Bool.and_true]; rw [Bool.and_comm]
  | .two w p q, ad => by simp only [lq, fineP, List.all_append, lq_fine p, lq_fine q, List.all_cons, List.all_nil, Bool.and_true]; rw [Bool.and_comm]
def sp_parts1 (N : Nat) : DS1 := fun ds M Q => ∃ (p : Pg) (ad : List DL.D), ds = [p.d, .tup ad] ∧ p.hi < N ∧ p.sz ≤ 80 ∧ ad.length + N ≤ 100 ∧ ∀ M', SubM M M' → Q (.lst ((lq p ad).map itm)) M'
def sp_lparts (N : Nat) : DS1 := fun ds M Q => ∃ (p : Pg) (ad : List DL.D), ds = [p.d, .tup ad] ∧ p.hi < N ∧ p.sz ≤ 80 ∧ ad.length + N ≤ 100 ∧ Q (.lst ((lq p ad).map itm)) M
theorem wk_lparts (N : Nat) : ∀ ds M Q, sp_lparts N ds M Q → sp_parts1 N ds M fun d M1 => ∃ M2, SubM M2 M1 ∧ Q d M2 := by
  rintro _ M Q ⟨p, ad, rfl, h1, h2, h3, q⟩
  exact ⟨p, ad, rfl, h1, h2, h3, fun M' s => ⟨M, s, q⟩⟩
theorem rd_lparts (N : Nat) : ∀ ds M Q, sp_parts1 (N + 1) ds M Q → ds.length = 2 ∧ r__law_lens_parts (sp_lparts N) { nx := fun _ M' => Q .non M', rt := Q } (dstart N__law_lens_parts ds) M := by
  rintro _ M Q ⟨p, ad, rfl, hN, h80, had, q⟩
  refine ⟨rfl, ?_⟩
  refine ⟨small (by simp), fun a ha => ?_⟩
  have sub : ∀ o, SubM M (mu M a o) := fun o => (SubM.refl M).mu ha o
  have fin : ∀ (xs : List DL.D) (ρ : Rho) (D : DEnds), ρ[0]? = some (some p.d) → ρ[1]? = some (some (.tup ad)) → ρ[2]? = some (some (.ref a)) → D.rt = Q → xs ++ [itm (ad, p)] = (lq p ad).map itm → xs.length ≤ 100 →
      dRet (dOp (rAddD true) (dSlot 2) (dLst true (dCons (dTup (dCons (dSlot 1) (dCons (dSlot 0) dNil))) dNil))) D ρ (mu M a (.lst xs)) := by
    intro xs ρ D h0 h1 h2 hD e l
    refine ⟨_, h2, _, h1, _, h0, small (by simp), small (by simp), ?_⟩
    refine newTr ?_
    refine ⟨xs, _, lstIn_ref mu_same, rfl, small (by simp; omega), newTr ?_⟩
    rw [hD]
    show Q (.lst (xs ++ [itm (ad, p)])) _
    rw [e]
    exact q _ (sub _)
  have cut : ∀ (G : DK) (x : DL.D) (r : List DL.D) (ρ : Rho) (M' : Mp), ρ[0]? = some (some (.tup (x :: r))) → G (.tup r) M' → dSl true (dSlot 0) (dPart (dC (.int 1))) dNoPart ρ M' G := by
    intro G x r ρ M' h0 g
    refine ⟨_, h0, 1, rfl, ?_⟩
    show G (.tup (DL.cutD (x :: r) (some 1) none)) M'
    rw [cut1]
    exact g
  have ext : ∀ (xs : List DL.D) (y : Pg) (n : Int) (ρ : Rho) (D : DEnds), y.hi < N → y.sz ≤ 80 → ρ[1]? = some (some (.tup ad)) → ρ[2]? = some (some (.ref a)) → ρ[3]? = some (some (.int n)) → ρ[4]? = some (some y.d) → xs.length ≤ 100 →
      D.nx ρ (mu M a (.lst (xs ++ (lq y (ad ++ [.int n])).map itm))) →
      dDrop (dExtend (dSlot 2) (dCall1 (sp_lparts N) (dCons (dSlot 4) (dCons (dOp (rAddD true) (dSlot 1) (dTup (dCons (dSlot 3) dNil))) dNil)))) D ρ (mu M a (.lst xs)) := by
    intro xs y n ρ D h1 h2 e1 e2 e3 e4 lx k
    refine ⟨_, e2, by rw [lstOf_ref mu_same]; rfl, _, e4, _, e1, _, e3, small (by simp), small (by simp; omega), ?_⟩
    refine ⟨y, ad ++ [.int n], rfl, h1, h2, by simp; omega, ?_⟩
    have l := lq_len y (ad ++ [.int n])
    refine ⟨a, _, xs, _, rfl, rfl, mu_same, rfl, small (by rw [List.length_map]; omega), ?_⟩
    rw [mu_mu]
    exact k
  cases p with
  | copy t =>
    refine ⟨_, rfl, _, _, rfl, ix0, small (by simp), in_texts (neg := false) (ws := ["copy", "const"]) ⟨true, by rfl, small (by simp), _, rfl, ?_⟩⟩
    exact ⟨trivial, fin [] _ _ rfl rfl rfl rfl rfl (by simp)⟩
  | const t x y =>
    refine ⟨_, rfl, _, _, rfl, ix0, small (by simp), in_texts (neg := false) (ws := ["copy", "const"]) ⟨true, by rfl, small (by simp), _, rfl, ?_⟩⟩
    exact ⟨trivial, fin [] _ _ rfl rfl rfl rfl rfl (by simp)⟩
  | one p =>
    refine ⟨_, rfl, _, _, rfl, ix0, small (by simp), in_texts (neg := false) (ws := ["copy", "const"]) ⟨false, by rfl, cut _ _ _ _ _ rfl ⟨[p.d], rfl, ?_⟩⟩⟩
    refine ⟨trivial, _, rfl, rfl, _, _, rfl, _, _, rfl, rfl, ?_⟩
    refine ext [] p 0 _ _ (by simp only [Pg.hi] at hN; omega) (by simp only [Pg.sz] at h80; omega) rfl rfl rfl rfl (by simp) ?_
    rw [List.nil_append]
    have l := lq_len p (ad ++ [.int 0])
    simp only [Pg.sz] at h80
    exact ⟨trivial, fin ((lq p (ad ++ [.int 0])).map itm) _ _ rfl rfl rfl rfl (by simp [lq]) (by rw [List.length_map]; omega)⟩
  | two w p p2 =>
    simp only [Pg.sz] at h80
    simp only [Pg.hi] at hN
    have l := lq_len p (ad ++ [.int 0])
    have l2 := lq_len p2 (ad ++ [.int 1])
    refine ⟨_, rfl, _, _, rfl, ix0, small (by simp), in_texts (neg := false) (ws := ["copy", "const"]) ⟨false, by cases w <;> rfl, cut _ _ _ _ _ rfl ⟨[p.d, p2.d], rfl, ?_⟩⟩⟩
    refine ⟨trivial, _, rfl, rfl, _, _, rfl, _, _, rfl, rfl, ?_⟩
    refine ext [] p 0 _ _ (by omega) (by omega) rfl rfl rfl rfl (by simp) ?_
    refine ⟨trivial, _, rfl, rfl, _, _, rfl, _, _, rfl, rfl, ?_⟩
    refine ext _ p2 1 _ _ (by omega) (by omega) rfl rfl rfl rfl (by simp; omega) ?_
    rw [List.nil_append]
    exact ⟨trivial, fin ((lq p (ad ++ [.int 0])).map itm ++ (lq p2 (ad ++ [.int 1])).map itm) _ _ rfl rfl rfl rfl (by simp [lq]) (by rw [List.length_append, List.length_map, List.length_map]; omega)⟩
theorem prog_loop {D : DEnds} {v : DL.D} {M : Mp} {Q : DK} (hnx : ∀ o1 o2 o3, Q (.bl true) M → D.nx [some v, o1, o2, o3] M) (hrt : D.rt = Q) : ∀ (l : List (List DL.D × Pg)) (o1 o2 o3 : Option DL.D), (∀ x ∈ l, x.2.ok ∧ x.2.hi < 30) → Q (.bl (l.all fun x => top x.2)) M →
    forW (dgTup 2 (dgCons (dgName 1) (dgCons (dgName 2) dgNil))) (dIfS (dNotT (dB (dCB rAllD (dCons (dLc true (dIt (dCall1 (sp_types 30) (dCons (dSlot 2) dNil))) (dgName 3) dYes (dCall1 sp_lty (dCons (dSlot 3) dNil)) [3]) dNil)))) (dRet (dC (.bl false))) dNext) D (fun _ => True) (l.map itm) [some v, o1, o2, o3] M
  | [], o1, o2, o3, _, q => ⟨trivial, hnx _ _ _ q⟩
  | x :: l, o1, o2, o3, ok, q => by
    obtain ⟨o, hh⟩ := ok x List.mem_cons_self
    refine ⟨trivial, _, rfl, rfl, _, _, rfl, _, _, rfl, rfl, ?_⟩
    obtain ⟨so, sh⟩ := src_ok o
    obtain ⟨vo, vh⟩ := vw_ok o
    show dCB rAllD (dCons (dLc true (dIt (dCall1 (sp_types 30) (dCons (dSlot 2) dNil))) (dgName 3) dYes (dCall1 sp_lty (dCons (dSlot 3) dNil)) [3]) dNil) _ _ _
    refine all_of (items := [(src x.2).d, (vw x.2).d]) tyB (by exact (by decide : 3 < 4)) (fun R h => ⟨_, rfl, x.2, rfl, o, hh, h⟩) (by simp) ?_ ?_
    · intro y hy K1 hk
      refine ⟨_, rfl, y, rfl, ?_, hk⟩
      simp at hy
      rcases hy with rfl | rfl
      · exact ty_gd so
      · exact ty_gd vo
    · rw [tyB2]
      refine ⟨_, rfl, ?_⟩
      rw [List.all_cons] at q
      cases h : top x.2 with
      | false =>
        rw [h, Bool.false_and] at q
        show D.rt (.bl false) M
        rw [hrt]
        exact q
      | true =>
        rw [h, Bool.true_and] at q
        exact prog_loop hnx hrt l _ _ _ (fun y hy => ok y (List.mem_cons_of_mem _ hy)) q
theorem rd_lisp : ∀ ds M Q, sp_isp ds M Q → ds.length = 1 ∧ r__law_is_program (sp_size 21) (sp_lparts 21) (sp_types 30) sp_lty { nx := fun _ M' => Q .non M', rt := Q } (dstart N__law_is_program ds) M := by
  rintro _ M Q ⟨v, rfl, gv, dv, q⟩
  refine ⟨rfl, ?_⟩
  refine ⟨_, rfl, v, 20, rfl, by decide, gv, decide ((0 : Int) < (sizeP 20 v : Nat)), rfl, ?_⟩
  unfold isP at q
  by_cases h0 : 0 < sizeP 20 v
  · rw [decide_eq_true (by omega)]
    refine ⟨decide (((sizeP 20 v : Nat) : Int) < 81), rfl, ?_⟩
    by_cases h : sizeP 20 v ≤ 80
    · rw [decide_eq_true (⟨h0, h⟩ : 0 < sizeP 20 v ∧ sizeP 20 v ≤ 80), Bool.true_and] at q
      rw [decide_eq_true (by omega)]
      obtain ⟨p, rfl, o, hp, z⟩ := pg_of 20 v (by omega)
      rw [fineV_eq] at q
      refine ⟨_, rfl, small (by simp), p, [], rfl, by omega, by omega, by decide, ?_⟩
      refine prog_loop (Q := Q) (fun o1 o2 o3 h => h) rfl (lq p []) none none none (fun x hx => ?_) ?_
      · obtain ⟨a, b⟩ := lq_ok o x hx
        exact ⟨a, by omega⟩
      · rw [lq_fine]
        exact q
    · rw [decide_eq_false (fun z => h z.2), Bool.false_and] at q
      rw [decide_eq_false (by omega)]
      exact q
  · rw [decide_eq_false (fun z => h0 z.1), Bool.false_and] at q
    rw [decide_eq_false (by omega)]
    exact ⟨_, rfl, q⟩
end K27

set_option maxHeartbeats 4000000
/-! K27j: what the law draws: types, texts, programs. -/
namespace K27
open PySem PySem.Spec DL KB
open L2 (atI ixN)
open PyProof.Rows hiding St signs

def lx : Ty → Nat
  | .leaf _ x => max 1 x.length
  | .star t => 2 * lx t
  | .pair _ a b => lx a + lx b
def Bt : Ty → Nat
  | .leaf _ _ => 30
  | .star t => 20 + 2 * Bt t
  | .pair _ a b => 20 + Bt a + Bt b
def At : Ty → Nat
  | .leaf _ _ => 1
  | .star t => 1 + 2 * At t
  | .pair _ a b => 1 + At a + At b
theorem at_bt : ∀ t : Ty, At t + 25 ≤ Bt t
  | .leaf _ _ => by simp [At, Bt]
  | .star t => by have := at_bt t; simp only [At, Bt]; omega
  | .pair _ a b => by have := at_bt a; have := at_bt b; simp only [At, Bt]; omega
def few2 : Ty → Prop
  | .leaf _ x => x.length ≤ 2
  | .star t => few2 t
  | .pair _ a b => few2 a ∧ few2 b
theorem wt_star (x : DL.D) : wt (.tup [.str "star", x]) = 6 + wt x := by
  have e : (Str.ofString "star").cps.size = 4 := rfl
  simp only [wt, wtAll, e]; omega
theorem wt_leafd (s : Bool) (x : List Nat) : wt (Ty.leaf s x).d = 6 + x.length := by
  have e := wd_size s
  have e2 := S_size x
  simp only [Ty.d, wt, wtAll, e] at e2 ⊢
  omega
theorem bt_ge : ∀ {t : Ty}, few2 t → 10 + wt t.d + lx t ≤ Bt t
  | .leaf s x, h => by
    have h : x.length ≤ 2 := h
    rw [wt_leafd]
    simp only [lx, Bt]
    omega
  | .star t, h => by
    have := bt_ge (t := t) h
    show 10 + wt (.tup [.str "star", t.d]) + _ ≤ _
    rw [wt_star]
    simp only [lx, Bt]
    omega
  | .pair o a b, h => by
    have h1 := bt_ge h.1
    have h2 := bt_ge h.2
    have := pw_size o
    simp only [Ty.d, wt, wtAll, lx, Bt]
    omega
theorem bt_30 : ∀ t : Ty, 30 ≤ Bt t
  | .leaf s x => Nat.le_refl _
  | .star t => by have := bt_30 t; simp only [Bt]; omega
  | .pair o a b => by have := bt_30 a; simp only [Bt]; omega
theorem hi_pos : ∀ t : Ty, 1 ≤ t.hi
  | .leaf _ _ => Nat.le_refl _
  | .star t => by simp [Ty.hi]
  | .pair _ _ _ => by simp [Ty.hi]
/-- a text of few signs -/
def Tx (n : Nat) (y : List Nat) : Prop := y.length ≤ n ∧ ∀ c ∈ y, okSign c = true
theorem tx_gd {n : Nat} {y : List Nat} (h : Tx n y) (hn : n ≤ 100000) : gd (.str (S y)) = true := gd_S (by have := h.1; omega) fun c hc => ok_small (h.2 c hc)
theorem join_S : ∀ ys : List (List Nat), Txt.join (Str.ofString "") (ys.map fun y => S y) = S ys.flatten := by
  intro ys
  have e := join_list (ys.map fun y => S y)
  rw [S_of (Txt.join _ _), e, List.map_map]
  congr 2
  have : ((fun s : Str => s.cps.toList) ∘ fun y : List Nat => S y) = id := funext fun y => S_list y
  rw [this, List.map_id]
theorem strs_of {n : Nat} : ∀ {ds : List DL.D}, (∀ d ∈ ds, ∃ y, d = .str (S y) ∧ Tx n y) → ∃ ys : List (List Nat), ds = (ys.map fun y => S y).map D.str ∧ ∀ y ∈ ys, Tx n y
  | [], _ => ⟨[], rfl, fun _ h => nomatch h⟩
  | d :: ds, h => by
    obtain ⟨y, rfl, hy⟩ := h _ List.mem_cons_self
    obtain ⟨ys, rfl, hs⟩ := strs_of (ds := ds) fun d hd => h d (List.mem_cons_of_mem _ hd)
    refine ⟨y :: ys, rfl, fun z hz => ?_⟩
    rcases List.mem_cons.mp hz with rfl | hz
    · exact hy
    · exact hs z hz
theorem flat_tx {n : Nat} : ∀ {ys : List (List Nat)}, (∀ y ∈ ys, Tx n y) → Tx (ys.length * n) ys.flatten
  | [], _ => ⟨by simp, fun _ h => by simp at h⟩
  | y :: ys, h => by
    obtain ⟨a, b⟩ := flat_tx (ys := ys) fun z hz => h z (List.mem_cons_of_mem _ hz)
    obtain ⟨c, d⟩ := h y List.mem_cons_self
    refine ⟨?_, fun x hx => ?_⟩
    · rw [List.flatten_cons, List.length_append, List.length_cons, Nat.add_mul]
      omega
    · rw [List.flatten_cons] at hx
      rcases List.mem_append.mp hx with hx | hx
      · exact d x hx
      · exact b x hx
def sp_any (N : Nat) : DS1 := fun ds M Q => ∃ (a : Addr) (t : Ty) (c : Nat), ds = [.ref a, t.d, .int 2] ∧ Pot M a c ∧ t.ok = true ∧ t.hi < N ∧ few2 t ∧ Bt t ≤ 2000 ∧ c + At t ≤ 90000 ∧
  ∀ y M', Tx (lx t) y → Dr M a M' (c + At t) → Q (.str (S y)) M'
theorem sign_ne {x : List Nat} (h : lfB true x = true) : 0 < x.length := by
  have h' : signB (.str (S x)) = true := by
    unfold lfB leafB at h
    rw [if_neg (by decide)] at h
    exact h
  cases x with
  | nil => exact absurd h' (by decide +kernel)
  | cons c r => simp
theorem rd_any (N : Nat) : ∀ ds M Q, sp_any (N + 1) ds M Q → ds.length = 3 ∧ r__law_lens_any sp_of (sp_any N) sp_take { nx := fun _ M' => Q .non M', rt := Q } (dstart N__law_lens_any ds) M := by
  rintro _ M Q ⟨a, t, c, rfl, p, o, hN, f2, b2, hc, q⟩
  refine ⟨rfl, ?_⟩
  have bg := bt_ge f2
  cases t with
  | leaf s x =>
    have hx : x.length ≤ 2 := f2
    have ok := (lf_ok (s := s) (x := x) o).2
    refine ⟨_, rfl, _, _, rfl, ix0, ?_⟩
    cases s with
    | false =>
      refine ⟨_, rfl, decide (("text" : Str) = "text"), rfl, ?_⟩
      rw [decide_eq_true (by rfl)]
      exact ⟨_, rfl, _, _, rfl, ix1, q x M ⟨by simp only [lx]; omega, ok⟩ ((Dr.refl p).up (by simp only [At]; omega))⟩
    | true =>
      refine ⟨_, rfl, decide (("sign" : Str) = "text"), rfl, ?_⟩
      rw [decide_eq_false (by decide)]
      refine ⟨_, rfl, decide (("sign" : Str) = "sign"), rfl, ?_⟩
      rw [decide_eq_true (by rfl)]
      have pos := sign_ne o
      refine ⟨_, rfl, _, rfl, _, _, rfl, ix1, a, _, c, rfl, p, by omega, .inr ⟨S x, rfl, by rw [S_size]; exact pos, by rw [S_size]; omega, fun ch hch M' d => ?_⟩⟩
      rw [S_list] at hch
      have e : (sg ch) = S [ch] := rfl
      rw [e]
      exact q [ch] M' ⟨by simp only [lx, List.length_cons, List.length_nil]; omega, fun z hz => by rw [List.mem_singleton.mp hz]; exact ok ch hch⟩ (d.up (by simp only [At]; omega))
  | star t =>
    simp only [At] at hc
    simp only [Bt] at b2
    simp only [Ty.hi] at hN
    refine ⟨_, rfl, _, _, rfl, ix0, ?_⟩
    refine ⟨_, rfl, decide (("star" : Str) = "text"), rfl, ?_⟩
    rw [decide_eq_false (by decide)]
    refine ⟨_, rfl, decide (("star" : Str) = "sign"), rfl, ?_⟩
    rw [decide_eq_false (by decide)]
    refine ⟨_, rfl, decide (("star" : Str) = "or"), rfl, ?_⟩
    rw [decide_eq_false (by decide)]
    refine ⟨_, rfl, decide (("star" : Str) = "cat"), rfl, ?_⟩
    rw [decide_eq_false (by decide)]
    refine ⟨_, rfl, ?_⟩
    refine ⟨_, rfl, _, rfl, a, 3, c, rfl, p, by omega, by decide, by decide, fun w M1 w0 w1 d1 => ?_⟩
    refine ⟨w, rfl, by omega, by omega, ?_⟩
    have lr : (rgD 0 w.toNat).length = w.toNat := by unfold rgD; simp
    refine lc_inv (fun n M' => Dr M a M' (c + 1 + n * At t)) (fun d => ∃ y, d = .str (S y) ∧ Tx (lx t) y) (fun _ _ _ => trivial) _ [] M1 (d1.up (by simp)) (fun d hd => nomatch hd) ?_ (small (by rw [lr]; simp; omega)) ?_
    · intro d hd m M' dm hm K1 K2 hk
      rw [lr] at hm
      have hm2 : m ≤ 1 := by simp at hm; omega
      have mb : m * At t ≤ 1 * At t := Nat.mul_le_mul_right _ hm2
      refine ⟨_, rfl, _, rfl, _, _, rfl, ix1, _, rfl, ?_⟩
      refine ⟨a, t, c + 1 + m * At t, rfl, dm.1, o, by omega, f2, by omega, by omega, fun y M2 ty d2 => ?_⟩
      refine hk _ M2 ⟨y, rfl, ty⟩ ((dm.trans d2).up ?_)
      rw [Nat.add_mul]; omega
    · intro ds M' l pd dm
      obtain ⟨ys, rfl, ty⟩ := strs_of pd
      have ln : ys.length ≤ 2 := by
        simp only [List.length_map] at l
        rw [lr] at l
        simp at l
        omega
      obtain ⟨f1, f2'⟩ := flat_tx ty
      have mul : ys.length * lx t ≤ 2 * lx t := Nat.mul_le_mul_right _ ln
      have sum : ((ys.map fun y => S y).map (·.length)).sum ≤ ys.flatten.length := by
        rw [List.length_flatten, List.map_map]
        have : ((fun s : Str => s.length) ∘ fun y : List Nat => S y) = List.length := funext fun y => S_len y
        rw [this]
        exact Nat.le_refl _
      simp only [lx, Bt] at bg
      refine newTr ⟨ys.map (fun y => S y), rfl, ?_, ?_⟩
      · have e0 : (Str.ofString "").length = 0 := rfl
        show ((ys.map fun y => S y).map (·.length)).sum + _ * (Str.ofString "").length ≤ 16777216
        rw [e0]
        omega
      · show Q (.str (Txt.join (Str.ofString "") (ys.map fun y => S y))) M'
        rw [join_S]
        refine q _ M' ⟨?_, f2'⟩ (dm.up ?_)
        · simp only [lx]; omega
        · have : (((ys.map fun y => S y).map D.str).length) * At t ≤ 2 * At t := Nat.mul_le_mul_right _ (by simp; omega)
          simp only [At]; omega
  | pair w u v =>
    simp only [At] at hc
    simp only [Bt] at b2
    simp only [Ty.hi] at hN
    simp only [Ty.ok, Bool.and_eq_true] at o
    simp only [lx, Bt] at bg
    refine ⟨_, rfl, _, _, rfl, ix0, ?_⟩
    cases w with
    | true =>
      refine ⟨_, rfl, decide (("or" : Str) = "text"), rfl, ?_⟩
      rw [decide_eq_false (by decide)]
      refine ⟨_, rfl, decide (("or" : Str) = "sign"), rfl, ?_⟩
      rw [decide_eq_false (by decide)]
      refine ⟨_, rfl, decide (("or" : Str) = "or"), rfl, ?_⟩
      rw [decide_eq_true (by rfl)]
      refine ⟨_, rfl, _, rfl, _, rfl, a, 2, c, rfl, p, by omega, by decide, by decide, fun w M1 w0 w1 d1 => ?_⟩
      have hw : w = 0 ∨ w = 1 := by omega
      rcases hw with rfl | rfl
      · refine ⟨_, _, rfl, ix1, _, rfl, a, u, c + 1, rfl, d1.1, o.1, by omega, f2.1, by omega, by omega, fun y M2 ty d2 => ?_⟩
        exact q y M2 ⟨by have := ty.1; simp only [lx]; omega, ty.2⟩ ((d1.trans d2).up (by simp only [At]; omega))
      · refine ⟨_, _, rfl, ix2, _, rfl, a, v, c + 1, rfl, d1.1, o.2, by omega, f2.2, by omega, by omega, fun y M2 ty d2 => ?_⟩
        exact q y M2 ⟨by have := ty.1; simp only [lx]; omega, ty.2⟩ ((d1.trans d2).up (by simp only [At]; omega))
    | false =>
      refine ⟨_, rfl, decide (("cat" : Str) = "text"), rfl, ?_⟩
      rw [decide_eq_false (by decide)]
      refine ⟨_, rfl, decide (("cat" : Str) = "sign"), rfl, ?_⟩
      rw [decide_eq_false (by decide)]
      refine ⟨_, rfl, decide (("cat" : Str) = "or"), rfl, ?_⟩
      rw [decide_eq_false (by decide)]
      refine ⟨_, rfl, decide (("cat" : Str) = "cat"), rfl, ?_⟩
      rw [decide_eq_true (by rfl)]
      refine ⟨_, rfl, _, rfl, _, _, rfl, ix1, _, rfl, a, u, c, rfl, p, o.1, by omega, f2.1, by omega, by omega, fun y M1 ty d1 => ?_⟩
      refine ⟨_, rfl, _, rfl, _, _, rfl, ix2, _, rfl, a, v, c + At u, rfl, d1.1, o.2, by omega, f2.2, by omega, by omega, fun z M2 tz d2 => ?_⟩
      refine addS rfl rfl (by have := ty.1; have := tz.1; omega) (q (y ++ z) M2 ⟨by have := ty.1; have := tz.1; simp only [lx, List.length_append]; omega, fun ch hch => ?_⟩ ((d1.trans d2).up (by simp only [At]; omega)))
      rcases List.mem_append.mp hch with h | h
      · exact ty.2 ch h
      · exact tz.2 ch h
/-! ### types -/
def okd (d : DL.D) : Bool := match d with
  | .str x => leafB "text" (.str x) && decide (x.cps.size ≤ 2)
  | _ => false
theorem txt_leaf {d : DL.D} (h : okd d = true) : ∃ x : List Nat, d = .str (S x) ∧ lfB false x = true ∧ x.length ≤ 2 ∧ Tx 2 x := by
  cases d with
  | str x =>
    simp only [okd, Bool.and_eq_true, decide_eq_true_eq] at h
    have l : lfB false x.cps.toList = true := by
      unfold lfB
      rw [← S_of]
      exact h.1
    refine ⟨x.cps.toList, by rw [← S_of], l, by rw [Array.length_toList]; exact h.2, by rw [Array.length_toList]; exact h.2, (lf_ok l).2⟩
  | _ => cases h
def Ln : Nat → Nat
  | 0 => 80
  | n + 1 => 120 + 2 * Ln n
def Tn : Nat → Nat
  | 0 => 3
  | n + 1 => 3 + 2 * Tn n
structure Dty (n : Nat) (t : Ty) : Prop where
  ok : t.ok = true
  few : few2 t
  hi : t.hi ≤ 2 * n + 2
  bt : Bt t ≤ Ln n
def sp_dty (N : Nat) : DS1 := fun ds M Q => ∃ (a : Addr) (n c : Nat), ds = [.ref a, .int (n : Nat)] ∧ Pot M a c ∧ n < N ∧ c + Tn n ≤ 90000 ∧
  ∀ t M', Dty n t → Dr M a M' (c + Tn n) → Q t.d M'
theorem ln_mono (n : Nat) : 80 ≤ Ln n := by
  cases n with
  | zero => exact Nat.le_refl _
  | succ n => simp only [Ln]; omega
abbrev tSign : Ty := .leaf true [97, 98]
theorem dty_sign (n : Nat) : Dty n tSign := ⟨by decide +kernel, by show 2 ≤ 2; omega, by show 1 ≤ _; omega, by have := ln_mono n; show 30 ≤ _; omega⟩
theorem dty_wide (n : Nat) : Dty n (.star tSign) := ⟨by decide +kernel, by show 2 ≤ 2; omega, by show 2 ≤ _; omega, by have := ln_mono n; show 80 ≤ _; omega⟩
theorem dty_ab (n : Nat) : Dty n (.star (.leaf false [97, 98])) := ⟨by decide +kernel, by show 2 ≤ 2; omega, by show 2 ≤ _; omega, by have := ln_mono n; show 80 ≤ _; omega⟩
theorem rd_dty (N : Nat) : ∀ ds M Q, sp_dty (N + 1) ds M Q → ds.length = 2 ∧ r__law_lens_type sp_take sp_of (sp_dty N) { nx := fun _ M' => Q .non M', rt := Q } (dstart N__law_lens_type ds) M := by
  rintro _ M Q ⟨a, n, c, rfl, p, hN, hc, q⟩
  refine ⟨rfl, ?_⟩
  have small4 : ∀ (w : Int) (M1 : Mp) (ρ : Rho) (D : DEnds), 0 ≤ w → w < 4 → Dr M a M1 (c + 1) → ρ[0]? = some (some (.ref a)) → ρ[4]? = some (some (.int w)) → ρ[5]? = some (some (Ty.star tSign).d) → D.rt = Q → 3 ≤ Tn n →
      dRet (dOp DL.rIxD (dLst true (dCons (dSlot 5) (dCons (dTup (dCons (dC (.str "sign")) (dCons (dC (.str "ab")) dNil))) (dCons (dTup (dCons (dC (.str "text")) (dCons (dCall1 sp_of (dCons (dSlot 0) (dCons (dLst true (dCons (dC (.str "")) (dCons (dC (.str "a")) (dCons (dC (.str "b")) (dCons (dC (.str "ab")) (dCons (dC (.str ",")) dNil)))))) dNil))) dNil))) (dCons (dTup (dCons (dC (.str "star")) (dCons (dTup (dCons (dC (.str "text")) (dCons (dC (.str "ab")) dNil))) dNil))) dNil))))) (dSlot 4)) D ρ M1 := by
    intro w M1 ρ D w0 w4 d1 h0 h4 h5 hD h3
    refine ⟨_, h5, small (by simp), _, h0, small (by simp), newTr ?_⟩
    refine ⟨a, _, c + 1, rfl, d1.1, by omega, .inl ⟨_, rfl, by simp, by simp, fun d hd M2 d2 => ?_⟩⟩
    have okA : ∀ d ∈ ([.str "", .str "a", .str "b", .str "ab", .str ","] : List DL.D), okd d = true := by decide +kernel
    obtain ⟨x, rfl, lf, lx2, tx⟩ := txt_leaf (okA d hd)
    refine ⟨small (by simp), small (by simp), small (by simp), small (by simp), newTr ⟨_, h4, ?_⟩⟩
    have dd := (d1.trans d2).up (show c + 1 + 1 ≤ c + Tn n by omega)
    have hw : w = 0 ∨ w = 1 ∨ w = 2 ∨ w = 3 := by omega
    rcases hw with rfl | rfl | rfl | rfl
    · refine ⟨_, _, rfl, ix0, ?_⟩
      rw [hD]
      exact q _ M2 (dty_wide n) dd
    · refine ⟨_, _, rfl, ix1, ?_⟩
      rw [hD]
      exact q tSign M2 (dty_sign n) dd
    · refine ⟨_, _, rfl, ix2, ?_⟩
      rw [hD]
      exact q (.leaf false x) M2 ⟨lf, lx2, by show 1 ≤ _; omega, by have := ln_mono n; show 30 ≤ _; omega⟩ dd
    · refine ⟨_, _, rfl, ix3, ?_⟩
      rw [hD]
      exact q (.star (.leaf false [97, 98])) M2 (dty_ab n) dd
  cases n with
  | zero =>
    refine ⟨_, rfl, _, rfl, _, _, rfl, rfl, trivial, decide ((0 : Int) < ((0 : Nat) : Int)), rfl, ?_⟩
    rw [decide_eq_false (by decide)]
    refine ⟨a, 4, c, rfl, p, by omega, by decide, by decide, fun w M1 w0 w1 d1 => ?_⟩
    refine ⟨small (by simp), small (by simp), _, _, rfl, ?_⟩
    refine ⟨_, rfl, decide (w < 4), rfl, ?_⟩
    rw [decide_eq_true w1]
    exact small4 w M1 _ _ w0 w1 d1 rfl rfl rfl rfl (Nat.le_refl _)
  | succ n =>
    simp only [Tn] at hc
    refine ⟨_, rfl, _, rfl, _, _, rfl, rfl, trivial, decide ((0 : Int) < ((n + 1 : Nat) : Int)), rfl, ?_⟩
    rw [decide_eq_true (by omega)]
    refine ⟨a, 8, c, rfl, p, by omega, by decide, by decide, fun w M1 w0 w1 d1 => ?_⟩
    refine ⟨small (by simp), small (by simp), _, _, rfl, ?_⟩
    refine ⟨_, rfl, decide (w < 4), rfl, ?_⟩
    by_cases w4 : w < 4
    · rw [decide_eq_true w4]
      exact small4 w M1 _ _ w0 w4 d1 rfl rfl rfl rfl (by simp only [Tn]; omega)
    rw [decide_eq_false w4]
    have e1 : (((n + 1 : Nat) : Int) - 1) = (n : Int) := by omega
    refine ⟨_, rfl, _, rfl, _, _, rfl, rfl, trivial, a, n, c + 1, by show [DL.D.ref a, DL.D.int (((n + 1 : Nat) : Int) - 1)] = _; rw [e1], d1.1, by omega, by omega, fun t1 M2 dt1 d2 => ?_⟩
    refine ⟨_, rfl, decide (w = 4), rfl, ?_⟩
    have b1 := dt1.bt
    have h1 := dt1.hi
    by_cases c4 : w = 4
    · rw [decide_eq_true c4]
      refine ⟨_, rfl, _, rfl, small (by simp), newTr ?_⟩
      refine ⟨a, _, c + 1 + Tn n, rfl, d2.1, by omega, .inl ⟨_, rfl, by simp, by simp, fun d hd M3 d3 => ?_⟩⟩
      have okA : ∀ d ∈ ([.str ";", .str ";", .str "a"] : List DL.D), okd d = true := by decide +kernel
      obtain ⟨x, rfl, lf, lx2, tx⟩ := txt_leaf (okA d hd)
      refine ⟨small (by simp), small (by simp), small (by simp), ?_⟩
      refine q (.star (.pair false t1 (.leaf false x))) M3 ⟨?_, ⟨dt1.few, lx2⟩, ?_, ?_⟩ ((d1.trans (d2.trans d3)).up (by simp only [Tn]; omega))
      · simp only [Ty.ok, dt1.ok, Bool.true_and]; exact lf
      · simp only [Ty.hi]; omega
      · simp only [Bt, Ln]; omega
    rw [decide_eq_false c4]
    refine ⟨_, rfl, _, rfl, _, _, rfl, rfl, trivial, a, n, c + 1 + Tn n, by show [DL.D.ref a, DL.D.int (((n + 1 : Nat) : Int) - 1)] = _; rw [e1], d2.1, by omega, by omega, fun t2 M3 dt2 d3 => ?_⟩
    have b2 := dt2.bt
    have h2 := dt2.hi
    refine ⟨_, rfl, decide (w = 5), rfl, ?_⟩
    by_cases c5 : w = 5
    · rw [decide_eq_true c5]
      refine ⟨_, rfl, _, rfl, small (by simp), newTr ?_⟩
      refine ⟨a, _, c + 1 + Tn n + Tn n, rfl, d3.1, by omega, .inl ⟨_, rfl, by simp, by simp, fun d hd M4 d4 => ?_⟩⟩
      have okA : ∀ d ∈ ([.str ",", .str ",", .str "-", .str "b"] : List DL.D), okd d = true := by decide +kernel
      obtain ⟨x, rfl, lf, lx2, tx⟩ := txt_leaf (okA d hd)
      refine ⟨small (by simp), _, rfl, small (by simp), small (by simp), ?_⟩
      refine q (.pair false t1 (.pair false (.leaf false x) t2)) M4 ⟨?_, ⟨dt1.few, lx2, dt2.few⟩, ?_, ?_⟩ ((d1.trans (d2.trans (d3.trans d4))).up (by simp only [Tn]; omega))
      · simp only [Ty.ok, dt1.ok, dt2.ok, Bool.true_and, Bool.and_true]; exact lf
      · simp only [Ty.hi]; omega
      · simp only [Bt, Ln]; omega
    rw [decide_eq_false c5]
    refine ⟨_, rfl, decide (w = 6), rfl, ?_⟩
    by_cases c6 : w = 6
    · rw [decide_eq_true c6]
      refine ⟨small (by simp), _, rfl, small (by simp), _, rfl, small (by simp), newTr ?_⟩
      refine ⟨a, _, c + 1 + Tn n + Tn n, rfl, d3.1, by omega, .inl ⟨_, rfl, by simp, by simp, fun d hd M4 d4 => ?_⟩⟩
      have okA : ∀ d ∈ ([.str "b", .str "b", .str "a"] : List DL.D), okd d = true := by decide +kernel
      obtain ⟨x, rfl, lf, lx2, tx⟩ := txt_leaf (okA d hd)
      refine ⟨small (by simp), _, rfl, small (by simp), small (by simp), ?_⟩
      refine q (.pair true (.pair false (.leaf false [97]) t1) (.pair false (.leaf false x) t2)) M4 ⟨?_, ⟨⟨by show 1 ≤ 2; omega, dt1.few⟩, lx2, dt2.few⟩, ?_, ?_⟩ ((d1.trans (d2.trans (d3.trans d4))).up (by simp only [Tn]; omega))
      · simp only [Ty.ok, dt1.ok, dt2.ok, Bool.and_true, Bool.and_eq_true]; exact ⟨by decide +kernel, lf⟩
      · simp only [Ty.hi]; omega
      · simp only [Bt, Ln]; omega
    rw [decide_eq_false c6]
    refine ⟨_, rfl, _, rfl, small (by simp), ?_⟩
    refine q (.pair false t1 t2) M3 ⟨?_, ⟨dt1.few, dt2.few⟩, ?_, ?_⟩ ((d1.trans (d2.trans d3)).up (by simp only [Tn]; omega))
    · simp only [Ty.ok, dt1.ok, dt2.ok, Bool.and_true]
    · simp only [Ty.hi]; omega
    · simp only [Bt, Ln]; omega
end K27

set_option maxHeartbeats 4000000
/-! K27k: programs drawn. -/
namespace K27
open PySem PySem.Spec DL KB
open L2 (atI ixN)
open PyProof.Rows hiding St signs

theorem ty_tree : ∀ t : Ty, tree t.d = true
  | .leaf s x => by simp [Ty.d, tree, treeAll]
  | .star t => by simp [Ty.d, tree, treeAll, ty_tree t]
  | .pair o a b => by simp [Ty.d, tree, treeAll, ty_tree a, ty_tree b]
structure Dn (t : Ty) (p : Pg) : Prop where
  sr : src p = t
  ok : p.ok
  hi : p.hi ≤ t.hi
  w : wt p.d ≤ Bt t
  g : gd p.d = true
  tr : tree p.d = true
  d : dep p.d ≤ t.hi + 1
  vb : Bt (vw p) ≤ Bt t
  vf : few2 (vw p)
  vh : (vw p).hi ≤ t.hi
theorem gd2 {x y : DL.D} (hx : gd x = true) (hy : gd y = true) : gd (.tup [x, y]) = true := gd_tup.mpr ⟨by simp, fun z hz => by simp at hz; rcases hz with rfl | rfl <;> assumption⟩
theorem gd3 {x y u : DL.D} (hx : gd x = true) (hy : gd y = true) (hu : gd u = true) : gd (.tup [x, y, u]) = true := gd_tup.mpr ⟨by simp, fun z hz => by simp at hz; rcases hz with rfl | rfl | rfl <;> assumption⟩
theorem gd4 {x y u v : DL.D} (hx : gd x = true) (hy : gd y = true) (hu : gd u = true) (hv : gd v = true) : gd (.tup [x, y, u, v]) = true := gd_tup.mpr ⟨by simp, fun z hz => by simp at hz; rcases hz with rfl | rfl | rfl | rfl <;> assumption⟩
theorem gd_w5 (w : W5) : gd (.str w.s) = true := by cases w <;> decide +kernel
theorem w5_size (w : W5) : w.s.cps.size ≤ 5 := by cases w <;> decide
theorem dn_copy {t : Ty} (o : t.ok = true) (f : few2 t) (h : t.hi ≤ 30) : Dn t (.copy t) := by
  have b := bt_ge f
  have e : (Str.ofString "copy").cps.size = 4 := rfl
  refine ⟨rfl, ⟨o, h⟩, hi_pos t, ?_, gd2 (by decide +kernel) (ty_gd o), ?_, ?_, Nat.le_refl _, f, Nat.le_refl _⟩
  · simp only [Pg.d, wt, wtAll, e]; omega
  · simp [Pg.d, tree, treeAll, ty_tree]
  · simp only [Pg.d, dep, depAll, ty_dep]; omega
theorem dn_const {t : Ty} {x y : List Nat} (o : t.ok = true) (f : few2 t) (h : t.hi ≤ 30) (b2 : Bt t ≤ 2000) (hx : Tx 1 x) (hy : Tx (lx t) y) : Dn t (.const t x y) := by
  have b := bt_ge f
  have b3 := bt_30 t
  have e : (Str.ofString "const").cps.size = 5 := rfl
  have hv : vw (.const t x y) = .leaf false x := by
    show tTn 4 x = _
    unfold tTn
    rw [if_pos (by have := hx.1; omega)]
  have h1 := hx.1
  have h2 := hy.1
  refine ⟨rfl, ⟨o, h, by omega, hx.2⟩, hi_pos t, ?_, gd4 (by decide +kernel) (ty_gd o) (tx_gd hx (by decide)) (tx_gd hy (by omega)), ?_, ?_, ?_, ?_, ?_⟩
  · have e1 := S_size x
    have e2 := S_size y
    simp only [Pg.d, wt, wtAll, e] at e1 e2 ⊢
    omega
  · simp [Pg.d, tree, treeAll, ty_tree]
  · simp only [Pg.d, dep, depAll, ty_dep]; omega
  · rw [hv]; exact b3
  · rw [hv]; show x.length ≤ 2; omega
  · rw [hv]; exact hi_pos t
theorem dn_one {t : Ty} {p : Pg} (h : Dn t p) : Dn (.star t) (.one p) := by
  have hw := h.w
  have hd := h.d
  refine ⟨by show Ty.star (src p) = _; rw [h.sr], h.ok, Nat.succ_le_succ h.hi, ?_, gd2 (by decide +kernel) h.g, ?_, ?_, ?_, h.vf, Nat.succ_le_succ h.vh⟩
  · show wt (.tup [.str "star", p.d]) ≤ _
    rw [wt_star]; simp only [Bt]; omega
  · simp [Pg.d, tree, treeAll, h.tr]
  · simp only [Pg.d, dep, depAll, Ty.hi]; omega
  · have := h.vb; show 20 + 2 * Bt (vw p) ≤ 20 + 2 * Bt t; omega
theorem dn_two {t u : Ty} {p q : Pg} (h : Dn t p) (h2 : Dn u q) (w : W5) : wt (Pg.two w p q).d ≤ 8 + Bt t + Bt u ∧ gd (Pg.two w p q).d = true ∧ tree (Pg.two w p q).d = true ∧ dep (Pg.two w p q).d ≤ max t.hi u.hi + 2 := by
  have hw := h.w
  have hd := h.d
  have hw2 := h2.w
  have hd2 := h2.d
  have ws := w5_size w
  refine ⟨?_, gd3 (gd_w5 w) h.g h2.g, ?_, ?_⟩
  · simp only [Pg.d, wt, wtAll]; omega
  · simp [Pg.d, tree, treeAll, h.tr, h2.tr]
  · simp only [Pg.d, dep, depAll]; omega
theorem dn_keyed {t : Ty} {p q : Pg} (h : Dn t p) (h2 : Dn (vw p) q) : Dn (.star t) (.two .keyed p q) := by
  obtain ⟨a, b, c, d⟩ := dn_two h h2 .keyed
  have vb := h.vb
  have vh := h.vh
  have h1 := h.hi
  have h3 := h2.hi
  refine ⟨by show Ty.star (src p) = _; rw [h.sr], ⟨h.ok, h2.ok⟩, ?_, ?_, b, c, ?_, ?_, h.vf, Nat.succ_le_succ vh⟩
  · simp only [Pg.hi, Ty.hi]; omega
  · simp only [Bt]; omega
  · simp only [Ty.hi]; omega
  · show 20 + 2 * Bt (vw p) ≤ 20 + 2 * Bt t; omega
theorem dn_cat {t u : Ty} {p q : Pg} (h : Dn t p) (h2 : Dn u q) : Dn (.pair false t u) (.two .cat p q) := by
  obtain ⟨a, b, c, d⟩ := dn_two h h2 .cat
  have vb := h.vb
  have vb2 := h2.vb
  have vh := h.vh
  have vh2 := h2.vh
  have h1 := h.hi
  have h3 := h2.hi
  refine ⟨by show Ty.pair false (src p) (src q) = _; rw [h.sr, h2.sr], ⟨h.ok, h2.ok⟩, ?_, ?_, b, c, ?_, ?_, ⟨h.vf, h2.vf⟩, ?_⟩
  · simp only [Pg.hi, Ty.hi]; omega
  · simp only [Bt]; omega
  · simp only [Ty.hi]; omega
  · show 20 + Bt (vw p) + Bt (vw q) ≤ 20 + Bt t + Bt u; omega
  · show max (vw p).hi (vw q).hi + 1 ≤ max t.hi u.hi + 1; omega
theorem dn_or {t u : Ty} {p q : Pg} (h : Dn t p) (h2 : Dn u q) : Dn (.pair true t u) (.two .or p q) := by
  obtain ⟨a, b, c, d⟩ := dn_two h h2 .or
  have vb := h.vb
  have vb2 := h2.vb
  have vh := h.vh
  have vh2 := h2.vh
  have h1 := h.hi
  have h3 := h2.hi
  refine ⟨by show Ty.pair true (src p) (src q) = _; rw [h.sr, h2.sr], ⟨h.ok, h2.ok⟩, ?_, ?_, b, c, ?_, ?_, ⟨h.vf, h2.vf⟩, ?_⟩
  · simp only [Pg.hi, Ty.hi]; omega
  · simp only [Bt]; omega
  · simp only [Ty.hi]; omega
  · show 20 + Bt (vw p) + Bt (vw q) ≤ 20 + Bt t + Bt u; omega
  · show max (vw p).hi (vw q).hi + 1 ≤ max t.hi u.hi + 1; omega
theorem dn_swap {t u : Ty} {p q : Pg} (h : Dn t p) (h2 : Dn u q) : Dn (.pair false t u) (.two .swap p q) := by
  obtain ⟨a, b, c, d⟩ := dn_two h h2 .swap
  have vb := h.vb
  have vb2 := h2.vb
  have vh := h.vh
  have vh2 := h2.vh
  have h1 := h.hi
  have h3 := h2.hi
  refine ⟨by show Ty.pair false (src p) (src q) = _; rw [h.sr, h2.sr], ⟨h.ok, h2.ok⟩, ?_, ?_, b, c, ?_, ?_, ⟨h2.vf, h.vf⟩, ?_⟩
  · simp only [Pg.hi, Ty.hi]; omega
  · simp only [Bt]; omega
  · simp only [Ty.hi]; omega
  · show 20 + Bt (vw q) + Bt (vw p) ≤ 20 + Bt t + Bt u; omega
  · show max (vw q).hi (vw p).hi + 1 ≤ max t.hi u.hi + 1; omega
def sp_over (N : Nat) : DS1 := fun ds M Q => ∃ (a : Addr) (t : Ty) (c : Nat), ds = [.ref a, t.d] ∧ Pot M a c ∧ t.ok = true ∧ few2 t ∧ t.hi < N ∧ t.hi ≤ 20 ∧ Bt t ≤ 2000 ∧ c + Bt t ≤ 50000 ∧
  ∀ p M', Dn t p → Dr M a M' (c + Bt t) → Q p.d M'
theorem over_leaf {M M1 : Mp} {Q : DK} {a : Addr} {t : Ty} {c : Nat} {ρ : Rho} {D : DEnds} (d1 : Dr M a M1 (c + 1)) (o : t.ok = true) (f : few2 t) (h : t.hi ≤ 20) (b2 : Bt t ≤ 2000) (hc : c + Bt t ≤ 50000) (hd : D.rt = Q)
    (h0 : ρ[0]? = some (some (.ref a))) (h1 : ρ[1]? = some (some t.d)) (q : ∀ p M', Dn t p → Dr M a M' (c + Bt t) → Q p.d M') :
    dRet (dTup (dCons (dC (.str "const")) (dCons (dSlot 1) (dCons (dCall1 sp_of (dCons (dSlot 0) (dCons (dLst true (dCons (dC (.str "")) (dCons (dC (.str "")) (dCons (dC (.str "a")) (dCons (dC (.str "-")) (dCons (dC (.str "b")) (dCons (dC (.str ";")) dNil))))))) dNil))) (dCons (dCall (quiet (sp_any 21)) [.int 2] (dCons (dSlot 0) (dCons (dSlot 1) dNil))) dNil))))) D ρ M1 := by
  have ab := at_bt t
  refine ⟨_, h1, _, h0, small (by simp), newTr ?_⟩
  refine ⟨a, _, c + 1, rfl, d1.1, by omega, .inl ⟨_, rfl, by simp, by simp, fun d hd2 M2 d2 => ?_⟩⟩
  have okA : ∀ d ∈ ([.str "", .str "", .str "a", .str "-", .str "b", .str ";"] : List DL.D), (okd d && match d with | .str x => decide (x.cps.size ≤ 1) | _ => false) = true := by decide +kernel
  have ok1 := okA d hd2
  rw [Bool.and_eq_true] at ok1
  obtain ⟨x, rfl, lf, lx2, tx⟩ := txt_leaf ok1.1
  have l1 : x.length ≤ 1 := by
    have := of_decide_eq_true ok1.2
    rwa [S_size] at this
  refine ⟨_, h0, _, h1, a, t, c + 2, rfl, d2.1, o, by omega, f, b2, by omega, fun y M3 ty d3 => ⟨small (by simp), ?_⟩⟩
  rw [hd]
  exact q (.const t x y) M3 (dn_const o f (by omega) b2 ⟨l1, tx.2⟩ ty) ((d1.trans (d2.trans d3)).up (by omega))
theorem vw_types {N : Nat} {ρ : Rho} {M : Mp} {Q : DK} {p : Pg} {i : Nat} (h : ρ[i]? = some (some p.d)) (o : p.ok) (hp : p.hi < N) (q : Q (vw p).d M) : dOp DL.rIxD (dCall1 (sp_types N) (dCons (dSlot i) dNil)) (dC (.int 1)) ρ M Q :=
  ⟨_, h, p, rfl, o, hp, _, _, rfl, ix1, q⟩
theorem rd_over (N : Nat) : ∀ ds M Q, sp_over (N + 1) ds M Q → ds.length = 2 ∧ r__law_lens_over sp_take (sp_any 21) sp_of (sp_over N) (sp_types 30) { nx := fun _ M' => Q .non M', rt := Q } (dstart N__law_lens_over ds) M := by
  rintro _ M Q ⟨a, t, c, rfl, p, o, f2, hN, h20, b2, hc, q⟩
  refine ⟨rfl, ?_⟩
  have b30 := bt_30 t
  cases t with
  | leaf s x =>
    refine ⟨_, rfl, _, _, rfl, ix0, _, rfl, a, 6, c, rfl, p, by omega, by decide, by decide, fun w M1 w0 w1 d1 => ⟨_, _, rfl, ?_⟩⟩
    have hq : ∀ p M', Dn (Ty.leaf s x) p → Dr M a M' (c + Bt (Ty.leaf s x)) → Q p.d M' := q
    have cp : Q (Pg.copy (Ty.leaf s x)).d M1 := hq (.copy (.leaf s x)) M1 (dn_copy o f2 (by omega)) (d1.up (by omega))
    have inW : ∀ G : Bool → Mp → Prop, G true M1 → dB (dOp (DL.rInD false) (dSlot 3) (dTup (dCons (dC (.str "text")) (dCons (dC (.str "sign")) dNil)))) [some (.ref a), some (Ty.leaf s x).d, none, some (.str (wd s)), some (.int w)] M1 G := by
      intro G g
      exact ⟨_, rfl, small (by simp), in_texts (neg := false) (ws := ["text", "sign"]) ⟨true, by cases s <;> rfl, g⟩⟩
    refine ⟨_, rfl, decide (w = 0), rfl, ?_⟩
    by_cases z : w = 0
    · rw [decide_eq_true z]
      exact ⟨_, rfl, small (by simp), cp⟩
    rw [decide_eq_false z]
    refine inW _ ?_
    refine ⟨_, rfl, decide (w < 4), rfl, ?_⟩
    by_cases z4 : w < 4
    · rw [decide_eq_true z4]
      exact ⟨_, rfl, small (by simp), cp⟩
    rw [decide_eq_false z4]
    refine ⟨_, rfl, decide (w = 1), rfl, ?_⟩
    rw [decide_eq_false (by omega)]
    refine inW _ ?_
    exact over_leaf d1 o f2 h20 b2 hc rfl rfl rfl q
  | star t =>
    simp only [Ty.hi] at hN h20
    simp only [Bt] at b2 hc
    refine ⟨_, rfl, _, _, rfl, ix0, _, rfl, a, 6, c, rfl, p, by omega, by decide, by decide, fun w M1 w0 w1 d1 => ⟨_, _, rfl, ?_⟩⟩
    have cp : Q (Pg.copy (Ty.star t)).d M1 := q (.copy (.star t)) M1 (dn_copy o f2 (by simp only [Ty.hi]; omega)) (d1.up (by omega))
    refine ⟨_, rfl, decide (w = 0), rfl, ?_⟩
    by_cases z : w = 0
    · rw [decide_eq_true z]
      exact ⟨_, rfl, small (by simp), cp⟩
    rw [decide_eq_false z]
    refine ⟨_, rfl, small (by simp), in_texts (neg := false) (ws := ["text", "sign"]) ⟨false, by rfl, ?_⟩⟩
    refine ⟨_, rfl, decide (w = 1), rfl, ?_⟩
    by_cases z1 : w = 1
    · rw [decide_eq_true z1]
      exact over_leaf d1 o f2 (by simp only [Ty.hi]; omega) (by simp only [Bt]; omega) (by simp only [Bt]; omega) rfl rfl rfl q
    rw [decide_eq_false z1]
    refine ⟨_, rfl, small (by simp), in_texts (neg := false) (ws := ["text", "sign"]) ⟨false, by rfl, ?_⟩⟩
    refine ⟨_, rfl, _, rfl, _, _, rfl, ix1, a, t, c + 1, rfl, d1.1, o, f2, by omega, by omega, by omega, by omega, fun p1 M2 n1 d2 => ?_⟩
    refine ⟨_, rfl, decide (("star" : Str) = "star"), rfl, ?_⟩
    rw [decide_eq_true (by rfl)]
    refine ⟨_, rfl, decide (w = 2), rfl, ?_⟩
    by_cases z2 : w = 2
    · rw [decide_eq_true z2]
      have vb := n1.vb
      have vh := n1.vh
      have hp := n1.hi
      refine ⟨_, rfl, _, rfl, ?_⟩
      refine vw_types rfl n1.ok (by omega) ?_
      refine ⟨a, vw p1, c + 1 + Bt t, rfl, d2.1, (vw_ok n1.ok).1, n1.vf, by omega, by omega, by omega, by omega, fun p2 M3 n2 d3 => ⟨small (by simp), ?_⟩⟩
      exact q (.two .keyed p1 p2) M3 (dn_keyed n1 n2) ((d1.trans (d2.trans d3)).up (by simp only [Bt]; omega))
    · rw [decide_eq_false z2]
      exact ⟨_, rfl, small (by simp), q (.one p1) M2 (dn_one n1) ((d1.trans d2).up (by simp only [Bt]; omega))⟩
  | pair pw2 t u =>
    simp only [Ty.hi] at hN h20
    simp only [Bt] at b2 hc
    have o2 : t.ok = true ∧ u.ok = true := by simpa only [Ty.ok, Bool.and_eq_true] using o
    refine ⟨_, rfl, _, _, rfl, ix0, _, rfl, a, 6, c, rfl, p, by omega, by decide, by decide, fun w M1 w0 w1 d1 => ⟨_, _, rfl, ?_⟩⟩
    have cp : Q (Pg.copy (Ty.pair pw2 t u)).d M1 := q (.copy (.pair pw2 t u)) M1 (dn_copy o f2 (by simp only [Ty.hi]; omega)) (d1.up (by omega))
    refine ⟨_, rfl, decide (w = 0), rfl, ?_⟩
    by_cases z : w = 0
    · rw [decide_eq_true z]
      exact ⟨_, rfl, small (by simp), cp⟩
    rw [decide_eq_false z]
    refine ⟨_, rfl, small (by simp), in_texts (neg := false) (ws := ["text", "sign"]) ⟨false, by cases pw2 <;> rfl, ?_⟩⟩
    refine ⟨_, rfl, decide (w = 1), rfl, ?_⟩
    by_cases z1 : w = 1
    · rw [decide_eq_true z1]
      exact over_leaf d1 o f2 (by simp only [Ty.hi]; omega) (by simp only [Bt]; omega) (by simp only [Bt]; omega) rfl rfl rfl q
    rw [decide_eq_false z1]
    refine ⟨_, rfl, small (by simp), in_texts (neg := false) (ws := ["text", "sign"]) ⟨false, by cases pw2 <;> rfl, ?_⟩⟩
    refine ⟨_, rfl, _, rfl, _, _, rfl, ix1, a, t, c + 1, rfl, d1.1, o2.1, f2.1, by omega, by omega, by omega, by omega, fun p1 M2 n1 d2 => ?_⟩
    refine ⟨_, rfl, decide (pw pw2 = "star"), rfl, ?_⟩
    rw [decide_eq_false (by cases pw2 <;> decide)]
    refine ⟨_, rfl, decide (pw pw2 = "cat"), rfl, ?_⟩
    have last : ∀ (x : Str) (K : DK), (∀ p2 M3, Dn u p2 → Dr M a M3 (c + (20 + Bt t + Bt u)) → K (.tup [.str x, p1.d, p2.d]) M3) →
        (fun ρ M2 => dCons (dSlot 2) (dCons (dCall1 (sp_over N) (dCons (dSlot 0) (dCons (dOp DL.rIxD (dSlot 1) (dC (.int 2))) dNil))) dNil) ρ M2 fun ds M3 => (D.str x :: ds).length ≤ sizeLine ∧ K (.tup (D.str x :: ds)) M3) [some (.ref a), some (Ty.pair pw2 t u).d, some p1.d, some (.str (pw pw2)), some (.int w)] M2 := by
      intro x K k
      refine ⟨_, rfl, _, rfl, _, rfl, _, _, rfl, ix2, a, u, c + 1 + Bt t, rfl, d2.1, o2.2, f2.2, by omega, by omega, by omega, by omega, fun p2 M3 n2 d3 => ⟨small (by simp), ?_⟩⟩
      exact k p2 M3 n2 ((d1.trans (d2.trans d3)).up (by omega))
    cases pw2 with
    | true =>
      rw [decide_eq_false (by decide)]
      exact ⟨_, rfl, last "or" Q fun p2 M3 n2 d3 => q (.two .or p1 p2) M3 (dn_or n1 n2) d3⟩
    | false =>
      rw [decide_eq_true (by rfl)]
      refine ⟨_, rfl, decide (w = 2), rfl, ?_⟩
      by_cases z2 : w = 2
      · rw [decide_eq_true z2]
        exact last "swap" Q fun p2 M3 n2 d3 => q (.two .swap p1 p2) M3 (dn_swap n1 n2) d3
      · rw [decide_eq_false z2]
        exact ⟨_, rfl, last "cat" Q fun p2 M3 n2 d3 => q (.two .cat p1 p2) M3 (dn_cat n1 n2) d3⟩
/-- a drawn program -/
structure Dpg (p : Pg) : Prop where
  w : wt p.d ≤ 1400
  g : gd p.d = true
  tr : tree p.d = true
  d : dep p.d ≤ 8
def sp_dpg : DS1 := fun ds M Q => ∃ (a : Addr) (c : Nat), ds = [.ref a, .int 2] ∧ Pot M a c ∧ c + 2000 ≤ 40000 ∧ ∀ p M', Dpg p → Dr M a M' (c + 2000) → Q p.d M'
theorem rd_dpg : ∀ ds M Q, sp_dpg ds M Q → ds.length = 2 ∧ r__law_lens_drawn (sp_over 21) (sp_dty 3) sp_take (sp_types 30) { nx := fun _ M' => Q .non M', rt := Q } (dstart N__law_lens_drawn ds) M := by
  rintro _ M Q ⟨a, c, rfl, p, hc, q⟩
  refine ⟨rfl, ?_⟩
  have e2 : Tn 2 = 21 := rfl
  have l2 : Ln 2 = 680 := rfl
  refine ⟨_, rfl, _, rfl, _, rfl, a, 2, c, rfl, p, by decide, by omega, fun t M1 dt d1 => ?_⟩
  have b := dt.bt
  have h := dt.hi
  rw [l2] at b
  rw [e2] at d1
  refine ⟨a, t, c + 21, rfl, d1.1, dt.ok, dt.few, by omega, by omega, by omega, by omega, fun p1 M2 n1 d2 => ?_⟩
  have w1 := n1.w
  have g1 := n1.d
  refine ⟨_, rfl, a, 5, c + 21 + Bt t, rfl, d2.1, by omega, by decide, by decide, fun w M3 w0 w1' d3 => ?_⟩
  refine ⟨_, _, rfl, rfl, trivial, decide (0 < w), rfl, ?_⟩
  by_cases z : 0 < w
  · rw [decide_eq_true z]
    exact ⟨_, rfl, q p1 M3 ⟨by omega, n1.g, n1.tr, by omega⟩ ((d1.trans (d2.trans d3)).up (by omega))⟩
  rw [decide_eq_false z]
  have vb := n1.vb
  have vh := n1.vh
  have hp := n1.hi
  refine ⟨_, rfl, _, rfl, ?_⟩
  refine vw_types rfl n1.ok (by omega) ?_
  refine ⟨a, vw p1, c + 21 + Bt t + 1, rfl, d3.1, (vw_ok n1.ok).1, n1.vf, by omega, by omega, by omega, by omega, fun p2 M4 n2 d4 => ⟨small (by simp), ?_⟩⟩
  obtain ⟨x1, x2, x3, x4⟩ := dn_two n1 n2 .thn
  exact q (.two .thn p1 p2) M4 ⟨by omega, x2, x3, by omega⟩ ((d1.trans (d2.trans (d3.trans d4))).up (by omega))
end K27

set_option maxHeartbeats 4000000
/-! K27l: programs at the bounds. -/
namespace K27
open PySem PySem.Spec DL KB
open L2 (atI ixN)
open PyProof.Rows hiding St signs

abbrev tA : DL.D := .tup [.str "text", .str "a"]
abbrev cA : DL.D := .tup [.str "copy", tA]
def stepI (w : Str) : List DL.D → List DL.D
  | x :: y :: r => r ++ [.tup [.str w, x, y]]
  | l => l
def iterI (w : Str) : Nat → List DL.D → List DL.D
  | 0, l => l
  | n + 1, l => stepI w (iterI w n l)
theorem iter_len (w : Str) {l : List DL.D} : ∀ k : Nat, k < l.length → (iterI w k l).length = l.length - k
  | 0, _ => rfl
  | k + 1, h => by
    have ih := iter_len w (l := l) k (by omega)
    show (stepI w (iterI w k l)).length = _
    rcases e : iterI w k l with _ | ⟨x, _ | ⟨y, r⟩⟩
    · rw [e] at ih; simp at ih; omega
    · rw [e] at ih; simp at ih; omega
    · rw [e] at ih; simp at ih; simp [stepI]; omega
theorem fold_while {i : Nat} {D : DEnds} {w : Str} {l : List DL.D} {ρ : Rho} {M : Mp} (hi : i < ρ.length) (l1 : 0 < l.length) (l2 : l.length ≤ 1000) (hρ : ρ.set i (some (.lst l)) = ρ)
    (h : D.nx (ρ.set i (some (.lst (iterI w (l.length - 1) l)))) M) :
    dWhile (dB (dOp (rInt (fun _ _ => True) fun i j => .bl (decide (j < i))) (dCB DL.rLen (dCons (dSlot i) dNil)) (dC (.int 1)))) (dAsg (dOp (rAddD true) (dSl true (dSlot i) (dPart (dC (.int 2))) dNoPart) (dLst true (dCons (dTup (dCons (dC (.str w)) (dCons (dOp DL.rIxD (dSlot i) (dC (.int 0))) (dCons (dOp DL.rIxD (dSlot i) (dC (.int 1))) dNil)))) dNil))) (dgName i)) D ρ M := by
  refine ⟨fun m ρ' M' => ∃ k, ρ' = ρ.set i (some (.lst (iterI w k l))) ∧ M' = M ∧ k < l.length ∧ m = l.length - k, ⟨_, 0, hρ.symm, rfl, l1, rfl⟩, ?_⟩
  rintro m ρ' M' ⟨k, rfl, eM, hk, rfl⟩
  rw [eM]
  have at1 : (ρ.set i (some (DL.D.lst (iterI w k l))))[i]? = some (some (.lst (iterI w k l))) := by rw [List.getElem?_set_self hi]
  have il := iter_len w (l := l) k hk
  refine ⟨_, at1, _, rfl, _, _, rfl, rfl, trivial, decide ((1 : Int) < ((iterI w k l).length : Nat)), rfl, ?_⟩
  by_cases z : k + 1 = l.length
  · rw [decide_eq_false (by omega)]
    have : k = l.length - 1 := by omega
    subst this
    exact h
  · rw [decide_eq_true (by omega)]
    refine ⟨fun ρ' M' => ∃ m', m' < l.length - k ∧ ∃ k, ρ' = ρ.set i (some (.lst (iterI w k l))) ∧ M' = M ∧ k < l.length ∧ m' = l.length - k, fun _ _ h => h, ?_⟩
    rcases e : iterI w k l with _ | ⟨x, _ | ⟨y, r⟩⟩
    · rw [e] at il; simp at il; omega
    · rw [e] at il; simp at il; omega
    · rw [e] at at1 il
      have c2 : DL.cutD (x :: y :: r) (some 2) none = r := by
        have := cut_from (x :: y :: r) 2
        simpa using this
      simp at il
      refine ⟨_, at1, 2, rfl, _, rfl, newTr ?_⟩
      rw [c2]
      refine ⟨_, at1, _, _, rfl, ix0, _, at1, _, _, rfl, ix1, small (by simp), small (by simp), newTr ?_⟩
      refine ⟨r, _, rfl, rfl, small (by simp; omega), newTr ?_⟩
      refine ⟨l.length - (k + 1), by omega, k + 1, ?_, rfl, by omega, rfl⟩
      rw [List.set_set]
      have : iterI w (k + 1) l = r ++ [.tup [.str w, x, y]] := by
        show stepI w (iterI w k l) = _
        rw [e]
        rfl
      rw [this]
/-- the value that is left -/
def rowI (w : Str) (l : List DL.D) : DL.D := (iterI w (l.length - 1) l).headD .non
theorem row_at {w : Str} {l : List DL.D} (l1 : 0 < l.length) : atI (iterI w (l.length - 1) l) 0 = some (rowI w l) := by
  have il := iter_len w (l := l) (l.length - 1) (by omega)
  unfold rowI
  rcases e : iterI w (l.length - 1) l with _ | ⟨x, r⟩
  · rw [e] at il; simp at il; omega
  · exact ix0
theorem rep_lc {ρ : Rho} {M : Mp} {D : DEnds} {i j : Nat} {t te : DTE} {n : Nat} {x : DL.D} (hn : n ≤ 1000) (ht : ∀ Q : DK, Q (.int (n : Nat)) M → t ρ M Q) (hte : ∀ (ρ : Rho) (K : DK), K x M → te ρ M K) (h : D.nx (ρ.set i (some (.lst (List.replicate n x)))) M) :
    dAsg (dLc true (dRange1 t) (dgName j) dYes te [j]) (dgName i) D ρ M := by
  refine ht _ ⟨(n : Int), rfl, by omega, by omega, ?_⟩
  have lr : (rgD 0 (Int.toNat (n : Nat))).length = n := by unfold rgD; simp
  refine lc_map (fun _ => x) (by exact trivial) _ [] ?_ (small (by rw [lr]; simp; omega)) ?_
  · intro d hd K1 K2 hk
    exact hte _ _ hk
  · rw [List.nil_append, List.map_const', lr]
    exact newTr h
def rowD (n : Nat) : DL.D := rowI "cat" (List.replicate n cA)
def sp_row : DS1 := fun ds M Q => ∃ n : Nat, ds = [.int (n : Nat)] ∧ 0 < n ∧ n ≤ 1000 ∧ Q (rowD n) M
theorem rd_row : ∀ ds M Q, sp_row ds M Q → ds.length = 1 ∧ r__law_row { nx := fun _ M' => Q .non M', rt := Q } (dstart N__law_row ds) M := by
  rintro _ M Q ⟨n, rfl, n0, n1, q⟩
  refine ⟨rfl, ?_⟩
  refine rep_lc (x := cA) n1 (fun Q h => ⟨_, rfl, h⟩) (fun ρ K k => ⟨small (by simp), small (by simp), k⟩) ?_
  refine fold_while (l := List.replicate n cA) (by exact (by decide : 1 < 3)) (by simpa using n0) (by simpa using n1) rfl ?_
  exact ⟨_, rfl, _, _, rfl, row_at (by simpa using n0), q⟩
def nestI (g : DL.D → DL.D) : Nat → DL.D → DL.D
  | 0, x => x
  | n + 1, x => nestI g n (g x)
theorem rg_len (n : Nat) : (rgD 0 n).length = n := by unfold rgD; simp
/-- a loop that wraps the slot i -/
theorem wrap_for {tb : DTS} {D : DEnds} {M : Mp} {i j : Nat} {g : DL.D → DL.D} (st : Rho → Option DL.D → Rho) (ok : Rho → Prop) (step : ∀ (ρ : Rho) (x d : DL.D) (D : DEnds), ok ρ → ρ[i]? = some (some x) → (∀ ρ', ok ρ' → ρ'[i]? = some (some (g x)) → D.nx ρ' M) → dgName j d ρ M fun ρ2 M2 => tb D ρ2 M2) :
    ∀ (items : List DL.D) (x : DL.D) (ρ : Rho), ok ρ → ρ[i]? = some (some x) → (∀ ρ', ok ρ' → ρ'[i]? = some (some (nestI g items.length x)) → D.nx ρ' M) → forW (dgName j) tb D (fun _ => True) items ρ M
  | [], x, ρ, o, h, k => ⟨trivial, k ρ o h⟩
  | d :: items, x, ρ, o, h, k => ⟨trivial, step ρ x d _ o h fun ρ' o' h' => wrap_for st ok step items (g x) ρ' o' h' k⟩
theorem nested {g : DL.D → DL.D} {tl : DTE} (f : Addr) {n : Nat} {M : Mp} {Q : DK} (n0 : 0 < n) (n1 : n ≤ 1000) (htl : ∀ (d : DL.D) (K : DK), K (g d) M → tl [some d] M K) (q : Q (nestI g (n - 1) cA) M) :
    r__law_nested f tl { nx := fun _ M' => Q .non M', rt := Q } (dstart N__law_nested [.int (n : Nat), .ref f]) M := by
  refine ⟨small (by simp), small (by simp), ?_⟩
  have e : ((n : Int) - 1) = ((n - 1 : Nat) : Int) := by omega
  refine ⟨_, rfl, _, _, rfl, rfl, trivial, ((n - 1 : Nat) : Int), by show DL.D.int ((n : Int) - 1) = _; rw [e], by omega, by omega, ?_⟩
  have et : (((n - 1 : Nat) : Int)).toNat = n - 1 := by omega
  rw [et]
  refine wrap_for (i := 2) (g := g) (fun ρ _ => ρ) (fun ρ => ρ.length = 4 ∧ ρ[1]? = some (some (.ref f))) ?_ (rgD 0 (n - 1)) cA _ ⟨rfl, rfl⟩ rfl ?_
  · rintro ρ x d D ⟨ol, o1⟩ h k
    have h1 : (ρ.set 3 (some d))[1]? = some (some (.ref f)) := by rw [List.getElem?_set_ne (by decide)]; exact o1
    have h2 : (ρ.set 3 (some d))[2]? = some (some x) := by rw [List.getElem?_set_ne (by decide)]; exact h
    refine ⟨h1, _, h2, htl x _ ?_⟩
    refine k _ ⟨by simpa using ol, ?_⟩ ?_
    · rw [List.getElem?_set_ne (by decide)]; exact h1
    · rw [List.getElem?_set_self (by simp; omega)]
  · rintro ρ' o h
    rw [rg_len] at h
    exact ⟨_, h, q⟩
abbrev gStar (x : DL.D) : DL.D := .tup [.str "star", x]
abbrev gOr (x : DL.D) : DL.D := .tup [.str "or", x, .tup [.str "copy", .tup [.str "text", .str "b"]]]
abbrev wideD : DL.D := .tup [.str "star", .tup [.str "sign", .str "ab"]]
def bndL : List DL.D :=
  [.tup [.str "copy", .tup [.str "cat", tA, wideD]], .tup [.str "const", .tup [.str "text", .str (repS "a" 20)], .str (repS "b" 100), .str (repS "a" 20)]]
  ++ [.tup [.str "const", tA, .str (repS "b" 101), .str "a"]]
  ++ [.tup [.str "const", wideD, .str "", .str (repS "a" 100)], .tup [.str "const", wideD, .str "", .str (repS "a" 101)]]
  ++ [rowD 40, rowD 41, gStar (rowD 40), gStar (gStar (rowD 40))]
  ++ [nestI gStar 19 cA] ++ [nestI gOr 19 cA] ++ [nestI gStar 20 cA] ++ [nestI gOr 20 cA]
  ++ [.tup [.str "copy", nestI gStar 29 tA]] ++ [.tup [.str "copy", nestI gStar 30 tA]]
  ++ [.tup [.str "copy", rowI "or" (List.replicate 60 tA)]] ++ [.tup [.str "copy", rowI "or" (List.replicate 61 tA)]]
theorem bnd_fair : (bndL.all Fair1) = true := by decide +kernel
def sp_bnd1 : DS1 := fun ds M Q => ∃ d, ds = [d] ∧ ∀ M', SubM M M' → Q (.lst bndL) M'
def sp_bnd : DS1 := fun ds M Q => ∃ d, ds = [d] ∧ Q (.lst bndL) M
theorem wk_bnd : ∀ ds M Q, sp_bnd ds M Q → sp_bnd1 ds M fun d M1 => ∃ M2, SubM M2 M1 ∧ Q d M2 := by
  rintro _ M Q ⟨d, rfl, q⟩
  exact ⟨d, rfl, fun M' s => ⟨M, s, q⟩⟩
/-- one is put behind -/
theorem app_one {t : DTE} {ρ : Rho} {M : Mp} {D : DEnds} {a : Addr} {xs : List DL.D} {x : DL.D} {i : Nat} (h : ρ[i]? = some (some (.ref a))) (l : xs.length ≤ 100) (ht : ∀ K : DK, K x (mu M a (.lst xs)) → t ρ (mu M a (.lst xs)) K) (k : D.nx ρ (mu M a (.lst (xs ++ [x])))) :
    dDrop (dAppend (dSlot i) t) D ρ (mu M a (.lst xs)) := by
  refine ⟨_, h, by rw [lstOf_ref mu_same]; rfl, ht _ ?_⟩
  refine ⟨a, x, xs, rfl, rfl, mu_same, Nat.lt_of_lt_of_le (by omega : _ < 100000) (small (Nat.le_refl _)), ?_⟩
  rw [mu_mu]
  exact k
theorem app_many {t : DTE} {ρ : Rho} {M : Mp} {D : DEnds} {a : Addr} {xs ys : List DL.D} {i : Nat} (h : ρ[i]? = some (some (.ref a))) (l : xs.length ≤ 100) (l2 : ys.length ≤ 100) (ht : ∀ K : DK, K (.lst ys) (mu M a (.lst xs)) → t ρ (mu M a (.lst xs)) K) (k : D.nx ρ (mu M a (.lst (xs ++ ys)))) :
    dDrop (dExtend (dSlot i) t) D ρ (mu M a (.lst xs)) := by
  refine ⟨_, h, by rw [lstOf_ref mu_same]; rfl, ht _ ?_⟩
  refine ⟨a, _, xs, ys, rfl, rfl, mu_same, rfl, small (by omega), ?_⟩
  rw [mu_mu]
  exact k
theorem row_call {n : Nat} {ρ : Rho} {M : Mp} {K : DK} (n0 : 0 < n) (n1 : n ≤ 1000) (k : K (rowD n) M) : dCall1 sp_row (dCons (dC (.int (n : Nat))) dNil) ρ M K := ⟨n, rfl, n0, n1, k⟩
theorem rd_bnd : ∀ ds M Q, sp_bnd1 ds M Q → ds.length = 1 ∧ r__law_bounds sp_row { nx := fun _ M' => Q .non M', rt := Q } (dstart N__law_bounds ds) M := by
  rintro _ M Q ⟨pt, rfl, q⟩
  refine ⟨rfl, ?_⟩
  refine ⟨small (by simp), small (by simp), ?_⟩
  refine ⟨small (by simp), _, rfl, small (by simp), small (by simp), by decide, by decide, by decide, small (by simp), by decide, by decide, by decide, by decide, by decide, by decide, small (by simp), small (by simp), fun a ha => ?_⟩
  refine app_one (x := .tup [.str "const", tA, .str (repS "b" 101), .str "a"]) rfl (by simp) (fun K k => ⟨small (by simp), by decide, by decide, by decide, small (by simp), k⟩) ?_
  refine app_many (ys := [.tup [.str "const", wideD, .str "", .str (repS "a" 100)], .tup [.str "const", wideD, .str "", .str (repS "a" 101)]]) rfl (by simp) (by simp) (fun K k => ?_) ?_
  · refine ⟨small (by simp), ?_⟩
    refine lc_map (fun d => match d with | .int n => .tup [.str "const", wideD, .str "", .str (repS "a" n)] | _ => .non) (by exact trivial) _ [] ?_ (small (by simp)) (newTr k)
    intro d hd K1 K2 hk
    simp at hd
    rcases hd with rfl | rfl
    · exact ⟨_, rfl, _, rfl, by decide, by decide, by decide, small (by simp), hk⟩
    · exact ⟨_, rfl, _, rfl, by decide, by decide, by decide, small (by simp), hk⟩
  refine app_many (ys := [rowD 40, rowD 41, gStar (rowD 40), gStar (gStar (rowD 40))]) rfl (by simp) (by simp) (fun K k => ?_) ?_
  · exact ⟨40, rfl, by decide, by decide, 41, rfl, by decide, by decide, 40, rfl, by decide, by decide, small (by simp), 40, rfl, by decide, by decide, small (by simp), small (by simp), small (by simp), newTr k⟩
  have nst : ∀ (n : Nat) (ρ : Rho) (M' : Mp) (K : DK), 0 < n → n ≤ 1000 → ρ[3]? = some (some (.int (n : Nat))) → K (nestI gStar (n - 1) cA) M' → dLam2 N__law_nested (fun f => r__law_nested f (dTup (dCons (dC (.str "star")) (dCons (dSlot 0) dNil)))) (dSlot 3) ρ M' K := by
    intro n ρ M' K n0 n1 h k
    exact ⟨_, h, fun f => nested f n0 n1 (fun d K k => ⟨_, rfl, small (by simp), k⟩) k⟩
  have nor : ∀ (n : Nat) (ρ : Rho) (M' : Mp) (K : DK), 0 < n → n ≤ 1000 → ρ[3]? = some (some (.int (n : Nat))) → K (nestI gOr (n - 1) cA) M' → dLam2 N__law_nested (fun f => r__law_nested f (dTup (dCons (dC (.str "or")) (dCons (dSlot 0) (dCons (dTup (dCons (dC (.str "copy")) (dCons (dTup (dCons (dC (.str "text")) (dCons (dC (.str "b")) dNil))) dNil))) dNil))))) (dSlot 3) ρ M' K := by
    intro n ρ M' K n0 n1 h k
    exact ⟨_, h, fun f => nested f n0 n1 (fun d K k => ⟨_, rfl, small (by simp), small (by simp), small (by simp), k⟩) k⟩
  refine ⟨small (by simp), ?_⟩
  refine ⟨trivial, ?_⟩
  refine app_one (x := nestI gStar 19 cA) rfl (by simp) (fun K k => nst 20 _ _ K (by decide) (by decide) rfl k) ?_
  refine app_one (x := nestI gOr 19 cA) rfl (by simp) (fun K k => nor 20 _ _ K (by decide) (by decide) rfl k) ?_
  refine ⟨trivial, ?_⟩
  refine app_one (x := nestI gStar 20 cA) rfl (by simp) (fun K k => nst 21 _ _ K (by decide) (by decide) rfl k) ?_
  refine app_one (x := nestI gOr 20 cA) rfl (by simp) (fun K k => nor 21 _ _ K (by decide) (by decide) rfl k) ?_
  refine ⟨trivial, ?_⟩
  refine ⟨small (by simp), ?_⟩
  have deep : ∀ (n : Nat) (x1 x2 x3 x4 x5 x6 x7 : Option DL.D) (xs : List DL.D) (D : DEnds), 0 < n → n ≤ 1000 → xs.length ≤ 100 →
      (∀ ρ' : Rho, (∃ x4 x5 x6, ρ' = [x1, x2, some (.ref a), some (.int (n : Nat)), x4, x5, x6]) → D.nx ρ' (mu M a (.lst (xs ++ [.tup [.str "copy", nestI gStar (n - 1) tA]])))) →
      (dSeq (dAsg (dTup (dCons (dC (.str "text")) (dCons (dC (.str "a")) dNil))) (dgName 4)) (dSeq (dFor (dRange1 (dOp (rInt (fun _ _ => True) fun i j => .int (i - j)) (dSlot 3) (dC (.int 1)))) (dgName 5) (dAsg (dTup (dCons (dC (.str "star")) (dCons (dSlot 4) dNil))) (dgName 4))) (dDrop (dAppend (dSlot 2) (dTup (dCons (dC (.str "copy")) (dCons (dSlot 4) dNil))))))) D [x1, x2, some (.ref a), some (.int (n : Nat)), x4, x5, x6] (mu M a (.lst xs)) := by
    intro n x1 x2 x3 x4 x5 x6 x7 xs D n0 n1 lx k
    refine ⟨small (by simp), ?_⟩
    have e : ((n : Int) - 1) = ((n - 1 : Nat) : Int) := by omega
    refine ⟨_, rfl, _, _, rfl, rfl, trivial, ((n - 1 : Nat) : Int), by show DL.D.int ((n : Int) - 1) = _; rw [e], by omega, by omega, ?_⟩
    have et : (((n - 1 : Nat) : Int)).toNat = n - 1 := by omega
    rw [et]
    refine wrap_for (i := 4) (g := gStar) (fun ρ _ => ρ) (fun ρ => ∃ x4 x5 x6, ρ = [x1, x2, some (.ref a), some (.int (n : Nat)), x4, x5, x6]) ?_ (rgD 0 (n - 1)) tA _ ⟨_, _, _, rfl⟩ rfl ?_
    · rintro ρ x d D ⟨y4, y5, y6, rfl⟩ h k
      obtain rfl : y4 = some x := by simpa using h
      exact ⟨_, rfl, small (by simp), k _ ⟨_, _, _, rfl⟩ rfl⟩
    · rintro ρ' ⟨y4, y5, y6, rfl⟩ h
      rw [rg_len] at h
      obtain rfl : y4 = some _ := by simpa using h
      exact app_one (x := .tup [.str "copy", nestI gStar (n - 1) tA]) rfl lx (fun K k => ⟨_, rfl, small (by simp), k⟩) (k _ ⟨_, _, _, rfl⟩)
  refine ⟨trivial, ?_⟩
  refine deep 30 _ _ none _ _ _ none _ _ (by decide) (by decide) (by simp) ?_
  rintro ρ' ⟨y4, y5, y6, rfl⟩
  refine ⟨trivial, ?_⟩
  refine deep 31 _ _ none _ _ _ none _ _ (by decide) (by decide) (by simp) ?_
  rintro ρ' ⟨z4, z5, z6, rfl⟩
  refine ⟨trivial, ?_⟩
  refine ⟨small (by simp), ?_⟩
  refine ⟨trivial, ?_⟩
  refine rep_lc (n := 60) (x := tA) (by decide) (fun Q h => ⟨_, rfl, h⟩) (fun ρ K k => ⟨small (by simp), k⟩) ?_
  refine fold_while (l := List.replicate 60 tA) (by exact (by decide : 6 < 7)) (by decide) (by decide) rfl ?_
  refine app_one (x := .tup [.str "copy", rowI "or" (List.replicate 60 tA)]) rfl (by simp) (fun K k => ⟨_, rfl, _, _, rfl, row_at (by decide), small (by simp), k⟩) ?_
  refine ⟨trivial, ?_⟩
  refine rep_lc (n := 61) (x := tA) (by decide) (fun Q h => ⟨_, rfl, h⟩) (fun ρ K k => ⟨small (by simp), k⟩) ?_
  refine fold_while (l := List.replicate 61 tA) (by exact (by decide : 6 < 7)) (by decide) (by decide) rfl ?_
  refine app_one (x := .tup [.str "copy", rowI "or" (List.replicate 61 tA)]) rfl (by simp) (fun K k => ⟨_, rfl, _, _, rfl, row_at (by decide), small (by simp), k⟩) ?_
  refine ⟨trivial, ?_⟩
  refine ⟨_, rfl, a, _, rfl, mu_same, ?_⟩
  have sub := ((SubM.refl M).mu ha (.lst bndL)).md ha
  exact q _ sub
end K27

set_option maxHeartbeats 8000000
/-! K27m: one value asked; the law. -/
namespace K27
open PySem PySem.Spec DL KB
open L2 (atI ixN)
open PyProof.Rows hiding St signs

def S_two (fs fv : Addr) : Addr → DSp → Prop := fun f sp => (f = fs ∧ sp = sp_told src) ∨ (f = fv ∧ sp = sp_told vw)
theorem top_nodes {p : Pg} (h : fineP p = true) : (src p).nodes ≤ 120 ∧ (vw p).nodes ≤ 120 ∧ (src p).hi ≤ 30 ∧ (vw p).hi ≤ 30 := by
  rw [fineP_eq, Bool.and_eq_true] at h
  have t := h.1
  unfold top at t
  rw [Bool.and_eq_true] at t
  obtain ⟨t1, e1, _, h1, n1⟩ := ty_B t.1
  obtain ⟨t2, e2, _, h2, n2⟩ := ty_B t.2
  rw [ty_inj e1, ty_inj e2]
  exact ⟨n1, n2, h1, h2⟩
def sp_rt : DS1 := fun ds M Q => ∃ v, ds = [v] ∧ Fair v ∧ Q (.bl true) M
theorem one_round {fs fv f : Addr} {fn : Pg → Ty} {v : DL.D} {n : Nat} {o5 o6 : Option DL.D} {M : Mp} {D : DEnds} (hS : S_two fs fv f (sp_told fn)) (fv' : Fair v) (hok : ∀ p : Pg, p.ok → (fn p).ok = true) (hf : ∀ p : Pg, fineP p = true → (fn p).nodes ≤ 120 ∧ (fn p).hi ≤ 30)
    (hat : ∀ p : Pg, atI [(src p).d, (vw p).d] (n : Int) = some (fn p).d) (k : ∀ o5 o6, D.nx [some v, some (.bl (isP v)), some (.bl (isP v)), some (.int (n : Nat)), some (.ref f), o5, o6] M) :
    (dSeq (dAsg (dHeard kn fun E1 => (dCallV 4 (S_two fs fv) (dCons (dSlot 0) dNil) E1)) (dgTup 2 (dgCons (dgName 5) (dgCons (dgName 6) dgNil)))) (dSeq (dIfS (dAndT (dB (dSlot 1)) (dOrT (dB (dOp (rIsN true) (dSlot 5) (dC .non))) (dB (dOp (rEqD2 true) (dCB rReprD (dCons (dSlot 6) dNil)) (dCB rReprD (dCons (dOp DL.rIxD (dCall1 (sp_types 30) (dCons (dSlot 0) dNil)) (dSlot 3)) dNil)))))) (dRet (dC (.bl false))) dNext) (dIfS (dAndT (dNotT (dB (dSlot 1))) (dOrT (dNotT (dB (dIsE kn (isC "BadLens") (dSlot 5)))) (dB (dOp (rEqD2 true) (dCB rReprD (dCons (dExcV kn (dSlot 5)) dNil)) (dCB rReprD (dCons (dSlot 0) dNil)))))) (dRet (dC (.bl false))) dNext)))
      D [some v, some (.bl (isP v)), some (.bl (isP v)), some (.int (n : Nat)), some (.ref f), o5, o6] M := by
  obtain ⟨gv, dv, wv⟩ := fv'
  refine ⟨f, sp_told fn, rfl, hS, _, rfl, v, rfl, gv, by omega, fun hp p e o hi z fp => ?_, fun hp => ?_⟩
  · subst e
    obtain ⟨nn, nh⟩ := hf p fp
    have gt := ty_gd (hok p o)
    obtain ⟨s, hs⟩ := repr_gd gt (by rw [ty_dep]; omega) (by have := ty_wt (hok p o); omega)
    rw [hp]
    refine ⟨_, rfl, rfl, _, _, rfl, _, _, rfl, rfl, ?_⟩
    refine ⟨_, rfl, true, rfl, ?_⟩
    refine ⟨_, rfl, rfl, false, by rfl, ?_⟩
    show dCB rReprD (dCons (dSlot 6) dNil) _ _ _
    refine repr_op hs (fun Q' h => ⟨_, rfl, h⟩) ?_
    show dCB rReprD (dCons (dOp DL.rIxD (dCall1 (sp_types 30) (dCons (dSlot 0) dNil)) (dSlot 3)) dNil) _ _ _
    refine repr_op hs (fun Q' h => ⟨_, rfl, p, rfl, o, by omega, _, rfl, _, _, rfl, hat p, h⟩) ?_
    refine ⟨false, by show DL.D.bl (!decide (s = s)) = _; rw [decide_eq_true rfl]; rfl, ?_⟩
    refine ⟨_, rfl, true, rfl, ?_⟩
    have := k (some .non) (some (fn p).d)
    rw [hp] at this
    exact this
  · obtain ⟨s, hs⟩ := repr_gd gv dv wv
    rw [hp]
    refine ⟨rfl, ?_⟩
    refine ⟨_, rfl, rfl, _, _, rfl, _, _, rfl, rfl, ?_⟩
    refine ⟨_, rfl, false, rfl, ?_⟩
    refine ⟨_, rfl, false, rfl, ?_⟩
    refine ⟨_, rfl, "BadLens", v, rfl, rfl, true, by rw [isC_same], ?_⟩
    show dCB rReprD (dCons (dExcV kn (dSlot 5)) dNil) _ _ _
    refine repr_op hs (fun Q' h => ⟨_, rfl, "BadLens", v, rfl, rfl, h⟩) ?_
    show dCB rReprD (dCons (dSlot 0) dNil) _ _ _
    refine repr_op hs (fun Q' h => ⟨_, rfl, h⟩) ?_
    refine ⟨false, by show DL.D.bl (!decide (s = s)) = _; rw [decide_eq_true rfl]; rfl, ?_⟩
    have := k (some (.exc "BadLens" v)) (some .non)
    rw [hp] at this
    exact this
theorem rd_rt (fs fv : Addr) : ∀ ds M Q, sp_rt ds M Q → ds.length = 1 ∧ r__law_right fv fs (S_two fs fv) sp_isp sp_isp (sp_types 30) { nx := fun _ M' => Q .non M', rt := Q } (dstart N__law_right ds) M := by
  rintro _ M Q ⟨v, rfl, fr, q⟩
  refine ⟨rfl, ?_⟩
  obtain ⟨gv, dv, wv⟩ := id fr
  refine ⟨_, rfl, v, rfl, gv, by omega, _, rfl, v, rfl, gv, by omega, _, _, rfl, ?_⟩
  refine ⟨_, rfl, _, rfl, true, rfl, ?_⟩
  refine ⟨_, rfl, _, rfl, false, by show DL.D.bl (!decide (isP v = isP v)) = _; rw [decide_eq_true rfl]; rfl, ?_⟩
  refine ⟨small (by simp), _, rfl, ?_⟩
  refine ⟨trivial, _, rfl, rfl, _, _, rfl, _, _, rfl, rfl, ?_⟩
  refine one_round (fn := src) (n := 0) (.inl ⟨rfl, rfl⟩) fr (fun p o => (src_ok o).1) (fun p h => ⟨(top_nodes h).1, (top_nodes h).2.2.1⟩) (fun p => ix0) fun o5 o6 => ?_
  refine ⟨trivial, _, rfl, rfl, _, _, rfl, _, _, rfl, rfl, ?_⟩
  refine one_round (fn := vw) (n := 1) (.inr ⟨rfl, rfl⟩) fr (fun p o => (vw_ok o).1) (fun p h => ⟨(top_nodes h).2.1, (top_nodes h).2.2.2⟩) (fun p => ix1) fun o5 o6 => ?_
  exact ⟨trivial, q⟩
/-! ### the law -/
theorem pg_its (p : Pg) : ∃ x r, p.d = .tup (x :: r) := by cases p <;> exact ⟨_, _, rfl⟩
def sp_law : DS1 := fun ds M Q => ∃ ns : List Int, ds = [.slst (ns.map D.int)] ∧ ns.length ≤ 63 ∧ ∀ M', Q (.bl true) M'
theorem six_fair {x : DL.D} {r : List DL.D} (g : gd (.tup (x :: r)) = true) (w : wt (.tup (x :: r)) ≤ 1400) (d : dep (.tup (x :: r)) ≤ 8) : Fair (.tup (x :: r)) ∧ Fair (.tup r) ∧ Fair (.tup [.tup (x :: r)]) ∧ Fair (.tup (x :: r ++ [.tup (x :: r)])) ∧ Fair (.tup [x]) := by
  obtain ⟨gl, ga⟩ := gd_tup.mp g
  have wl : wt (.tup (x :: r)) = wt x + 1 + wtAll r := rfl
  have dl : dep (.tup (x :: r)) = max (dep x) (depAll r) + 1 := rfl
  have le : (x :: r).length ≤ 1400 := Nat.le_trans (wtAll_len _) w
  refine ⟨⟨g, by omega, by omega⟩, ⟨gd_tup.mpr ⟨by simp at gl; omega, fun y hy => ga y (List.mem_cons_of_mem _ hy)⟩, ?_, ?_⟩, ⟨gd_tup.mpr ⟨by simp, fun y hy => by rw [List.mem_singleton.mp hy]; exact g⟩, ?_, ?_⟩, ⟨gd_tup.mpr ⟨by simp at le ⊢; omega, fun y hy => ?_⟩, ?_, ?_⟩, ⟨gd_tup.mpr ⟨by simp, fun y hy => by rw [List.mem_singleton.mp hy]; exact ga x List.mem_cons_self⟩, ?_, ?_⟩⟩
  · show depAll r + 1 ≤ 60; omega
  · show wtAll r ≤ 8000; omega
  · show max (dep (.tup (x :: r))) 0 + 1 ≤ 60; omega
  · show wt (.tup (x :: r)) + 1 + 0 ≤ 8000; omega
  · rcases List.mem_append.mp hy with h | h
    · exact ga y h
    · rw [List.mem_singleton.mp h]; exact g
  · show depAll (x :: r ++ [.tup (x :: r)]) + 1 ≤ 60
    have : depAll (x :: r ++ [.tup (x :: r)]) ≤ 8 := depAll_le.mpr fun y hy => by
      rcases List.mem_append.mp hy with h | h
      · have := (depAll_le (n := depAll (x :: r))).mp (Nat.le_refl _) y h
        have e : dep (.tup (x :: r)) = depAll (x :: r) + 1 := rfl
        omega
      · rw [List.mem_singleton.mp h]; exact d
    omega
  · show wtAll (x :: r ++ [.tup (x :: r)]) ≤ 8000
    rw [wtAll_append]
    show wt (.tup (x :: r)) + (wt (.tup (x :: r)) + 1 + 0) ≤ 8000
    omega
  · show max (dep x) 0 + 1 ≤ 60; omega
  · show wt x + 1 + 0 ≤ 8000; omega
theorem fin_all {ρ : Rho} {M : Mp} {b : Addr} {L : List DL.D} {D : DEnds} (h4 : ρ[4]? = some (some (.ref b))) (hl : ρ.length = 7) (hM : M b = some (.lst L)) (fr : ∀ v ∈ L, Fair v) (ll : L.length ≤ 1000) (k : D.nx ρ M) :
    dIfS (dNotT (dB (dCB rAllD (dCons (dLc true (dIt (dSlot 4)) (dgName 6) dYes (dCall1 sp_rt (dCons (dSlot 6) dNil)) [6]) dNil)))) (dRet (dC (.bl false))) dNext D ρ M := by
  refine ⟨_, h4, L, hM, ?_⟩
  refine lc_map (fun _ => .bl true) hM _ [] ?_ (small (by simp; omega)) ?_
  · intro v hv K1 K2 hk
    have at1 : ((dwipe ρ [6]).set 6 (some v))[6]? = some (some v) := by rw [List.getElem?_set_self (by unfold dwipe dwipe; rw [List.length_set]; omega)]
    exact ⟨_, at1, v, rfl, fr v hv, hk⟩
  · refine newTr ⟨_, L.map fun _ => true, rfl, ?_, ?_⟩
    · show some _ = some _
      rw [List.nil_append, List.map_map]
      rfl
    · have : (L.map fun _ => true).all id = true := by simp
      rw [this]
      exact ⟨_, rfl, k⟩
theorem rd_law : ∀ ds M Q, sp_law ds M Q → ds.length = 1 ∧ r_law sp_places sp_pot sp_dpg sp_odd (sp_bent 20) sp_bnd sp_rt { nx := fun _ M' => Q .non M', rt := Q } (dstart N_law ds) M := by
  rintro _ M Q ⟨ns, rfl, ln, q⟩
  refine ⟨rfl, ?_⟩
  refine ⟨_, rfl, ns, rfl, by omega, fun n hn => ?_⟩
  show forW _ _ _ _ (rgD 0 n) _ _
  refine for_inv (fun _ ρ M1 => ∃ o1 o2 o3 o4 o5 o6, ρ = [some (.slst (ns.map D.int)), o1, o2, o3, o4, o5, o6]) (fun _ _ _ _ => trivial) _ 0 _ _ ⟨_, _, _, _, _, _, rfl⟩ ?_ (fun ρ M' _ => q M')
  rintro d hd m ρ M1 ⟨o1, o2, o3, o4, o5, o6, rfl⟩ _ N hN
  unfold rgD at hd
  obtain ⟨i, hi, rfl⟩ := List.mem_map.mp hd
  have hi' := List.mem_range.mp hi
  refine ⟨_, rfl, _, rfl, ns, i, by simp, by omega, by omega, fun a M2 ha pa => ?_⟩
  refine ⟨_, rfl, a, 0, rfl, pa, by omega, fun p M3 dp d3 => ?_⟩
  obtain ⟨x, r, e⟩ := pg_its p
  obtain ⟨wp, gp, tp, dd⟩ := dp
  rw [e] at wp gp tp dd ⊢
  obtain ⟨f1, f2, f3, f4, f5⟩ := six_fair gp wp dd
  have gl : (x :: r).length ≤ 1400 := Nat.le_trans (wtAll_len _) wp
  refine ⟨_, rfl, _, rfl, a, 0 + 2000, rfl, d3.1, by omega, fun v M4 gv dv wv d4 => ?_⟩
  refine ⟨_, rfl, 1, rfl, ?_⟩
  refine ⟨_, rfl, small (by simp), ?_⟩
  refine ⟨_, rfl, _, rfl, small (by simp), small (by simp at gl ⊢; omega), ?_⟩
  refine ⟨_, rfl, _, _, rfl, ix0, small (by simp), small (by simp), fun b hb => ?_⟩
  have c1 : DL.cutD (x :: r) (some 1) none = r := by rw [cut1]; rfl
  rw [c1]
  have ne : b ≠ a := d4.1.ne hb
  have p5 : Pot (mu M4 b (.lst [.tup (x :: r), v, .tup r, .tup [.tup (x :: r)], .tup (x :: r ++ [.tup (x :: r)]), .tup [x]])) a (0 + 2000 + 1) := d4.1.at (mu_ne (Ne.symm ne))
  refine ⟨_, rfl, by rw [lstOf_ref mu_same]; rfl, 8, rfl, by decide, by decide, ?_⟩
  refine lc_inv (fun n M' => Pot M' a (2001 + n * 65) ∧ M' b = some (.lst [.tup (x :: r), v, .tup r, .tup [.tup (x :: r)], .tup (x :: r ++ [.tup (x :: r)]), .tup [x]])) Fair (fun _ _ _ => trivial) _ [] _ ⟨p5.up (by omega), mu_same⟩ (fun d hd => nomatch hd) ?_ (small (by rw [rg_len]; simp)) ?_
  · rintro d hd m M' ⟨pm, mb⟩ hm K1 K2 hk
    rw [show (rgD 0 (Int.toNat 8)).length = 8 from rfl] at hm
    simp at hm
    refine ⟨_, rfl, _, rfl, a, .tup (x :: r), 2001 + m * 65, rfl, pm, tp, gp, by omega, by omega, by omega, by omega, fun v' M6 gv' dv' wv' d6 => ?_⟩
    refine hk v' M6 ⟨gv', by omega, by omega⟩ ⟨d6.1.up (by omega), ?_⟩
    rw [d6.2 b ne]
    exact mb
  · rintro bs M' lb fb ⟨pm, mb⟩
    have lb8 : bs.length = 8 := by rw [lb]; rfl
    refine ⟨b, _, _, bs, rfl, rfl, mb, rfl, small (by simp; omega), ?_⟩
    have fr : ∀ u ∈ [.tup (x :: r), v, .tup r, .tup [.tup (x :: r)], .tup (x :: r ++ [.tup (x :: r)]), .tup [x]] ++ bs, Fair u := by
      intro u hu
      rcases List.mem_append.mp hu with h | h
      · simp only [List.mem_cons, List.not_mem_nil, or_false] at h
        rcases h with rfl | rfl | rfl | rfl | rfl | rfl
        · exact f1
        · exact ⟨gv, by omega, by omega⟩
        · exact f2
        · exact f3
        · exact f4
        · exact f5
      · exact fb u h
    refine ⟨_, rfl, decide ((0 : Int) + (i : Nat) = 0), rfl, ?_⟩
    by_cases z : (0 : Int) + (i : Nat) = 0
    · rw [decide_eq_true z]
      refine ⟨_, rfl, by rw [lstOf_ref mu_same]; rfl, _, rfl, _, rfl, ?_⟩
      refine ⟨b, _, _, bndL, rfl, rfl, mu_same, rfl, small (by have : bndL.length = 17 := rfl; simp; omega), ?_⟩
      rw [mu_mu]
      refine fin_all rfl rfl mu_same (fun u hu => ?_) (by have : bndL.length = 17 := rfl; simp; omega) (hN _ _ ⟨_, _, _, _, _, _, rfl⟩)
      rcases List.mem_append.mp hu with h | h
      · exact fr u h
      · exact fair_by (List.all_eq_true.mp bnd_fair u h)
    · rw [decide_eq_false z]
      exact fin_all rfl rfl mu_same fr (by simp; omega) (hN _ _ ⟨_, _, _, _, _, _, rfl⟩)
end K27

set_option maxHeartbeats 8000000
/-! K27n: the defs together; the walk. -/
namespace K27
open PySem PySem.Spec L2 DL KB
open PyProof.Rows hiding St signs

section
variable {P : Program} {w : World} {K : PySem.W.Frag} {mg : Str → Option Value} {base : Heap}
/-- the tables of the two defs that make lambdas -/
abbrev TT2 (PB PR : Addr) : TT8 := [(PB, lamQ "_law_bounds"), (PR, lamQ "_law_right")]
theorem all_law (T : Txt K mg) (XE : Exs P w K mg base) {CS CT : Addr} (XK : Kns K mg CS CT) {cB PB cR PR : Addr} (tB : LamX.TabB base mg cB PB) (tR : LamX.TabB base mg cR PR) (ne : PB ≠ PR)
    (hB : HasL K mg "_law_bounds" st__law_bounds ["pot"] cB) (hR : HasL K mg "_law_right" st__law_right ["value"] cR)
    {f : Addr} {oc : Value} {od : Option Addr} {dV kV doc pm : Value} {an : Option Addr} {cd ct : Value} {osl : Array (Option Value)}
    (lk : K.lookup f = some ⟨oc, od, .func (PySem.W.fnOf "law" "law" (L2.defArgs st_law) (L2.defBody st_law) (L2.defScope st_law) dV kV doc pm an cd ct), osl⟩) (hcd : PySem.W.codeIn K cd "law" = true) :
    GnOk P w K mg base (L2.CX P w) 81 f (PySem.W.fnOf "law" "law" (L2.defArgs st_law) (L2.defBody st_law) (L2.defScope st_law) dV kV doc pm an cd ct) ["script"] (lift K (TT2 PB PR) (quiet sp_law)) := by
  have t1 := c_is_tuple (P := P) (w := w) (base := base) (k := 0) (TT := TT2 PB PR) T rd_tuple
  have t2 := c_is_word (P := P) (w := w) (base := base) (k := 0) (TT := TT2 PB PR) T rd_word
  have t3 := c_is_text (P := P) (w := w) (base := base) (k := 0) (TT := TT2 PB PR) T rd_text
  have t4 := c_is_leaf (k := 1) T t3 rd_leaf
  have t5 := c_is_node (k := 2) T (t1.mono (by decide)) (t2.mono (by decide)) t4 rd_node
  have t6 := c_parts_of (P := P) (w := w) (base := base) (k := 0) (TT := TT2 PB PR) T rd_parts
  have t7 := (c_is_type (k := 3) T t5 (t6.mono (by decide)) rd_type).weak wk_type
  have en : ∀ N : Nat, Cal1 P w K (TT2 PB PR) mg base (N + 1) "ends_of_type" (sp_ends N) := by
    intro N
    induction N with
    | zero => exact (Cal.none T.h_ends_of_type fun ds M Q E h => by obtain ⟨_, _, _, _, _, h, _⟩ := h; omega).mono (by decide)
    | succ N ih => exact (c_ends_of_type (k := N + 1) T ih (rd_ends N)).weak (wk_ends (N + 1))
  have t8 := c_is_const (k := 33) T (t7.mono (by decide)) (t3.mono (by decide)) (en 32) rd_const
  have mm : ∀ N : Nat, Cal1 P w K (TT2 PB PR) mg base (N + 35) "many_in" (sp_many N) := by
    intro N
    induction N with
    | zero => exact (Cal.none T.h_many_in fun ds M Q E h => by obtain ⟨_, _, _, h, _⟩ := h; omega).mono (by decide)
    | succ N ih => exact c_many_in (k := N + 35) T (t7.mono (by omega)) (t8.mono (by omega)) ih (rd_many N)
  have tt : ∀ N : Nat, Cal1 P w K (TT2 PB PR) mg base (N + 1) "type_of_text" (sp_tt N) := by
    intro N
    induction N with
    | zero => exact c_type_of_text (k := 0) (sp_type_of_text := fun _ _ _ => False) T (Cal.none T.h_type_of_text fun ds M Q E h => h) rd_tt0
    | succ N ih => exact c_type_of_text (k := N + 1) T ih (rd_tt N)
  have ty : ∀ N : Nat, Cal1 P w K (TT2 PB PR) mg base (N + 5) "types_of" (sp_types N) := by
    intro N
    induction N with
    | zero => exact (Cal.none T.h_types_of fun ds M Q E h => by obtain ⟨_, _, _, h, _⟩ := h; omega).mono (by decide)
    | succ N ih => exact c_types_of (k := N + 5) T ((tt 4).mono (by omega)) ih (rd_types N)
  have t9 := c_programs_in (P := P) (w := w) (base := base) (k := 0) (TT := TT2 PB PR) T rd_pin
  have fi : ∀ N : Nat, Cal1 P w K (TT2 PB PR) mg base (N + 35) "are_types_fine" (sp_fine N) := by
    intro N
    induction N with
    | zero => exact (Cal.none T.h_are_types_fine fun ds M Q E h => by obtain ⟨_, _, _, h, _⟩ := h; omega).mono (by decide)
    | succ N ih => exact c_are_types_fine (k := N + 35) T ((ty 30).mono (by omega)) (t7.mono (by omega)) (t9.mono (by omega)) ih (rd_fine N)
  have t10 := c_is_program (k := 65) T (fi 30) ((mm 21).mono (by decide)) rd_isp
  have t11 := c_check_program (k := 66) T XE (by decide) t10 rd_chk
  have t12 := c_source_type (k := 67) T t11 ((ty 30).mono (by decide)) rd_stype
  have t13 := c_view_type (k := 67) T t11 ((ty 30).mono (by decide)) rd_vtype
  have u1 := c__law_take (P := P) (w := w) (base := base) (k := 0) (TT := TT2 PB PR) T rd_take
  have u2 := c__law_of (k := 1) T u1 rd_of
  have u3 := c__law_odd (k := 2) T u2 rd_odd
  have be : ∀ N : Nat, Cal1 P w K (TT2 PB PR) mg base (N + 3) "_law_bent" (sp_bent N) := by
    intro N
    induction N with
    | zero => exact (Cal.none T.h__law_bent fun ds M Q E h => by obtain ⟨_, _, _, _, _, _, _, h, _⟩ := h; omega).mono (by decide)
    | succ N ih => exact c__law_bent (k := N + 3) T (u1.mono (by omega)) ih (u2.mono (by omega)) (u3.mono (by omega)) (rd_bent N)
  have le : ∀ N : Nat, Cal1 P w K (TT2 PB PR) mg base (N + 1) "_law_ends" (sp_ends N) := by
    intro N
    induction N with
    | zero => exact (Cal.none T.h__law_ends fun ds M Q E h => by obtain ⟨_, _, _, _, _, h, _⟩ := h; omega).mono (by decide)
    | succ N ih => exact (c__law_ends (k := N + 1) T ih (rd_lends N)).weak (wk_ends (N + 1))
  have u4 := c__law_has (k := 33) T (le 32) rd_has
  have lt : ∀ N : Nat, Cal1 P w K (TT2 PB PR) mg base (N + 1) "_law_lens_text_type" (sp_tt N) := by
    intro N
    induction N with
    | zero => exact c__law_lens_text_type (k := 0) (sp__law_lens_text_type := fun _ _ _ => False) T (Cal.none T.h__law_lens_text_type fun ds M Q E h => h) rd_ltt0
    | succ N ih => exact c__law_lens_text_type (k := N + 1) T ih (rd_ltt N)
  have ly : ∀ N : Nat, Cal1 P w K (TT2 PB PR) mg base (N + 5) "_law_lens_types" (sp_types N) := by
    intro N
    induction N with
    | zero => exact (Cal.none T.h__law_lens_types fun ds M Q E h => by obtain ⟨_, _, _, h, _⟩ := h; omega).mono (by decide)
    | succ N ih => exact c__law_lens_types (k := N + 5) T ((lt 4).mono (by omega)) ih (rd_ltypes N)
  have an : ∀ N : Nat, Cal1 P w K (TT2 PB PR) mg base (N + 3) "_law_lens_any" (sp_any N) := by
    intro N
    induction N with
    | zero => exact (Cal.none T.h__law_lens_any fun ds M Q E h => by obtain ⟨_, _, _, _, _, _, h, _⟩ := h; omega).mono (by decide)
    | succ N ih => exact c__law_lens_any (k := N + 3) T (u2.mono (by omega)) ih (u1.mono (by omega)) (rd_any N)
  have ad := c__law_lens_any_d (k := 23) T (u2.mono (by decide)) (an 20) (u1.mono (by decide)) (rd_any 20)
  have dt : ∀ N : Nat, Cal1 P w K (TT2 PB PR) mg base (N + 3) "_law_lens_type" (sp_dty N) := by
    intro N
    induction N with
    | zero => exact (Cal.none T.h__law_lens_type fun ds M Q E h => by obtain ⟨_, _, _, _, _, h, _⟩ := h; omega).mono (by decide)
    | succ N ih => exact c__law_lens_type (k := N + 3) T (u1.mono (by omega)) (u2.mono (by omega)) ih (rd_dty N)
  have ov : ∀ N : Nat, Cal1 P w K (TT2 PB PR) mg base (N + 35) "_law_lens_over" (sp_over N) := by
    intro N
    induction N with
    | zero => exact (Cal.none T.h__law_lens_over fun ds M Q E h => by obtain ⟨_, _, _, _, _, _, _, h, _⟩ := h; omega).mono (by decide)
    | succ N ih => exact c__law_lens_over (k := N + 35) T (u1.mono (by omega)) (ad.mono (by omega)) (u2.mono (by omega)) ih ((ly 30).mono (by omega)) (rd_over N)
  have u5 := c__law_lens_drawn (k := 56) T (ov 21) ((dt 3).mono (by decide)) (u1.mono (by decide)) ((ly 30).mono (by decide)) rd_dpg
  have lp : ∀ N : Nat, Cal1 P w K (TT2 PB PR) mg base (N + 1) "_law_lens_parts" (sp_lparts N) := by
    intro N
    induction N with
    | zero => exact (Cal.none T.h__law_lens_parts fun ds M Q E h => by obtain ⟨_, _, _, h, _⟩ := h; omega).mono (by decide)
    | succ N ih => exact (c__law_lens_parts (k := N + 1) T ih (rd_lparts N)).weak (wk_lparts (N + 1))
  have ts : ∀ N : Nat, Cal1 P w K (TT2 PB PR) mg base (N + 1) "_law_type_size" (sp_tsize N) := by
    intro N
    induction N with
    | zero => exact (Cal.none T.h__law_type_size fun ds M Q E h => by obtain ⟨_, _, _, h, _⟩ := h; omega).mono (by decide)
    | succ N ih => exact c__law_type_size (k := N + 1) T ih (rd_tsize N)
  have u6 := c__law_is_type (k := 32) T (ts 31) rd_lty
  have u7 := c__law_is_text (P := P) (w := w) (base := base) (k := 0) (TT := TT2 PB PR) T rd_ltext
  have lz : ∀ N : Nat, Cal1 P w K (TT2 PB PR) mg base (N + 34) "_law_size" (sp_size N) := by
    intro N
    induction N with
    | zero => exact (Cal.none T.h__law_size fun ds M Q E h => by obtain ⟨_, _, _, h, _⟩ := h; omega).mono (by decide)
    | succ N ih => exact c__law_size (k := N + 34) T (u6.mono (by omega)) (u7.mono (by omega)) (u4.mono (by omega)) ih (rd_size N)
  have u8 := c__law_is_program (k := 55) T (lz 21) ((lp 21).mono (by decide)) ((ly 30).mono (by decide)) (u6.mono (by decide)) rd_lisp
  have u9 := c__law_row (P := P) (w := w) (base := base) (k := 0) (TT := TT2 PB PR) T rd_row
  have v1 := (c__law_bounds (k := 1) T XK u9 tB (by simp) (by
    intro p hp e
    simp at hp
    rcases hp with rfl | rfl
    · rfl
    · exact absurd e.symm ne) hB rd_bnd).weak wk_bnd
  obtain ⟨fs, as, gs⟩ := t12.at
  obtain ⟨fv, av, gv⟩ := t13.at
  have v2 := c__law_right (k := 70) T XK gv gs (S_call := S_two fs fv) (fun f sp h => by
    rcases h with ⟨rfl, rfl⟩ | ⟨rfl, rfl⟩
    · exact as.mono (by decide)
    · exact av.mono (by decide)) (u8.mono (by decide)) (t10.mono (by decide)) ((ly 30).mono (by decide)) tR (by simp) (by
    intro p hp e
    simp at hp
    rcases hp with rfl | rfl
    · exact absurd e ne
    · rfl) hR (rd_rt fs fv)
  have v3 := c__law_places (P := P) (w := w) (base := base) (k := 0) (TT := TT2 PB PR) T rd_places
  have v4 := c__law_pot (P := P) (w := w) (base := base) (k := 0) (TT := TT2 PB PR) T rd_pot
  exact c_law (k := 80) T (v3.mono (by decide)) (v4.mono (by decide)) (u5.mono (by decide)) (u3.mono (by decide)) ((be 20).mono (by decide)) (v1.mono (by decide)) (v2.mono (by decide)) lk hcd rd_law
end
/-! ### the exceptions -/
section
variable {K : PySem.W.Frag} {h : Heap} {mg : Str → Option Value}
/-- what the written part says of a class of exceptions -/
structure XCls (K : PySem.W.Frag) (x : Str) (C : Addr) : Prop where
  a : PySem.W.nsIn K mainGlobals x = some (some (.ref C))
  o : OexC K C
  i : ∃ fI : Addr, PySem.W.findIn K (.ref C) "__init__" = some (some (.ref fI)) ∧ PySem.W.typeIn K (.ref fI) = some (.type "function") ∧ ∃ fd : FuncData, L2.Fun K "__init__" "TextError.__init__" st_init fI fd ∧ Binds K fd ["self", "value"] []
  nv : PySem.W.findIn K (.ref C) "value" = some none
  xf : XfC K C
  xc : ExcC K C
theorem exc_of {P : Program} {w : World} {base : Heap} (X : K.In h) (G : h.Ns mainGlobals mg) {x : Str} {C : Addr} (c : XCls K x C) (mv : PySem.W.nsIn K mainGlobals "ValueError" = some none) (vV : PySem.W.findCls K (.type "ValueError") (.type "type") "__init__" = some (.val (.builtin "ValueError.__init__"))) : ExC P w K mg base x := by
  obtain ⟨fI, i1, i2, fd, F, b⟩ := c.i
  exact ⟨C, fI, fd, PySem.W.mg_of X G c.a, c.a, c.o, i1, i2, c.nv, ok_init F (PySem.W.mg_none_of X G mv) vV, b⟩
theorem kns_of (X : K.In h) (G : h.Ns mainGlobals mg) {CS CT : Addr} (aS : PySem.W.nsIn K mainGlobals "TextError" = some (some (.ref CS))) (cT : XCls K "BadLens" CT)
    (s1 : PySem.W.exmOne K (.ref CT) (.ref CS) = some true) (k1 : PySem.W.kitOne K (.ref CT) (.ref CT) = some true) : Kns K mg CS CT := by
  have at_ : ∀ {x : Str} {C D : Addr}, XCls K x D → PySem.W.nsIn K mainGlobals x = some (some (.ref C)) → C = D := fun c e => by
    have := e.symm.trans c.a
    cases this
    rfl
  refine ⟨PySem.W.mg_of X G aS, PySem.W.mg_of X G cT.a, ⟨?_⟩, ?_, ?_⟩
  · rintro x C rfl e
    obtain rfl := at_ cT e; exact ⟨cT.xf, cT.xc, cT.nv⟩
  · rintro x C rfl e
    obtain rfl := at_ cT e; exact s1
  · rintro x C rfl e
    obtain rfl := at_ cT e; rw [isC_same]; exact k1
theorem cls_mk {x : Str} {C fI : Addr} {nm q N bs bm sn sub ab col dd k0 k1 k2 k3 k5} {oc : Value} {od : Option Addr} {kV doc pm : Value} {an : Option Addr} {cd ct : Value} {osl : Array (Option Value)}
    (a : PySem.W.nsIn K mainGlobals x = some (some (.ref C))) (l : K.lookup C = some (excClassObj nm q C N bs bm true sn sub ab col dd k0 k1 k2 k3 k5 "ValueError.__new__")) (r : PySem.HandSPX.refsVE bm = true)
    (sa : PySem.W.findIn K (.ref C) "__setattr__" = some (some (.builtin "object.__setattr__"))) (ex : PySem.W.subIn K (.ref C) (.type "BaseException") = some true) (ty : PySem.W.typeIn K (.ref C) = some (.type "type")) (kC : PySem.W.keepIn K (.ref C) = true)
    (i1 : PySem.W.findIn K (.ref C) "__init__" = some (some (.ref fI))) (i2 : PySem.W.typeIn K (.ref fI) = some (.type "function")) (lI : K.lookup fI = some ⟨oc, od, .func (PySem.W.fnOf "__init__" "TextError.__init__" (L2.defArgs st_init) (L2.defBody st_init) (L2.defScope st_init) .none kV doc pm an cd ct), osl⟩)
    (cI : PySem.W.codeIn K cd "TextError.__init__" = true) (kI : PySem.W.keepIn K (.ref fI) = true) (nv : PySem.W.findIn K (.ref C) "value" = some none)
    (ga : PySem.W.findIn K (.ref C) "__getattribute__" = some (some (.builtin "BaseException.__getattribute__"))) (gg : PySem.W.findIn K (.ref C) "__getattr__" = some none) (hd : PySem.W.hasDictIn K C = true)
    (ha : PySem.W.findIn K (.ref C) "__class__" = some (some (.builtin "object.__class__"))) (hn : PySem.W.specialIn K (.builtin "object.__class__") "__get__" = some (some (.builtin "getset_descriptor.__get__"))) (ht : PySem.W.takesIn K (.builtin "object.__class__") = some true) (hm : PySem.W.mroIn K C (.type "object") = some true) : XCls K x C := by
  refine ⟨a, ⟨⟨nm, q, N, bs, bm, sn, sub, ab, col, dd, k0, k1, k2, k3, k5, l, r⟩, sa, ex, ty, kC⟩, ⟨fI, i1, i2, _, ⟨⟨oc, od, kV, doc, pm, an, cd, ct, osl, rfl, lI, cI⟩, kI⟩, .all fun us hl => match us, hl with | [_, _], _ => rfl⟩, nv, ⟨ga, gg, ex, hd⟩, ⟨ga, gg, ex, hd, ha, hn, ht, hm⟩⟩
/-- the heap without its tables -/
def noTab (H : L2.Hp) : L2.Hp := fun b => match H b with
  | some (.tbl _) => none
  | o => o
theorem noTab_sub (H : L2.Hp) : L2.Same (noTab H) H := by
  intro b o e
  unfold noTab at e
  split at e
  · cases e
  · exact e
theorem noTab_nt (H : L2.Hp) (b : Addr) (ps : Array Value) : noTab H b ≠ some (.tbl ps) := by
  intro e
  unfold noTab at e
  split at e
  · cases e
  · rename_i h
    exact h ps e
theorem noTab_keep {H : L2.Hp} {b : Addr} {o : L2.HO} (h : H b = some o) (n : ∀ ps, o ≠ .tbl ps) : noTab H b = some o := by
  unfold noTab
  split
  · rename_i ps e
    rw [h] at e
    cases e
    exact absurd rfl (n ps)
  · exact h
theorem due {H : L2.Hp} {a PB PR : Addr} {ns : List Int} (hl : ns.length ≤ 63) (hS : L2.SqL K H a (ns.map L2.V.int)) (h1 : H PB = some (.tbl #[])) (h2 : H PR = some (.tbl #[])) : lift K (TT2 PB PR) (quiet sp_law) [.ref a] H (fun v _ => v = .bl true) fun _ _ _ => False := by
  have hS' : L2.SqL K (noTab H) a (ns.map L2.V.int) := by
    rcases hS with (e | ⟨o, e⟩) | e
    · exact .inl (.inl (noTab_keep e fun ps z => by cases z))
    · exact .inl (.inr ⟨o, noTab_keep e fun ps z => by cases z⟩)
    · exact .inr e
  refine ⟨[.slst (ns.map D.int)], noTab H, fun _ => none, fun d _ => d = .bl true, fun _ _ _ => False, .cons (.slst hS' (of_ints ns)) .nil, ⟨noTab_sub H, (fun a m e => nomatch e), noTab_nt H⟩, ?_, ⟨ns, rfl, hl, fun _ => rfl⟩, ?_, fun _ _ _ _ _ _ _ _ _ z => z.elim⟩
  · intro p hp
    simp at hp
    rcases hp with rfl | rfl
    · exact .nil h1
    · exact .nil h2
  · rintro v d F M H' s rp rfl
    cases rp
    rfl
/-- what the end asks of the written part -/
structure End27 (q : Program) (K : PySem.W.Frag) (mg : Str → Option Value) (fa : Addr) : Prop where
  law : mg "law" = some (.ref fa)
  txt : Txt K mg
  dL : Dfn K "law" st_law
  dB : Dfn K "_law_bounds" st__law_bounds
  dR : Dfn K "_law_right" st__law_right
  tabs : ∃ cB PB cR PR : Addr, TabsOf q K [("_law_bounds", cB, PB), ("_law_right", cR, PR)] ∧ PB ≠ PR
  exs : ∀ (P : Program) (w : World) (base : Heap), Exs P w K mg base
  kns : ∃ CS CT : Addr, Kns K mg CS CT
theorem walk {l : PySem.W.OpenLaw} {q : Program} {loose : List Str} {XP : (Str → Option Value) → Heap → Prop} {YP : World → Heap → Prop} {d : DefRec} {K : Params → PySem.W.Frag} (hn : l.most = some 63) (hdf : d.params.defaults = [])
    (hY : ∀ (w : World) (h : Heap), YP w h → (K w.params).In h)
    (F : ∀ (w : World) (mg : Str → Option Value) (fa : Addr) (h : Heap), (K w.params).In h → h.Ns mainGlobals mg → mg d.name = some (.ref fa) → End27 q (K w.params) mg fa) :
    PySem.W.WalkO q loose XP YP l.row.toRowW d [] (fun f vs => PySem.call f vs) := by
  refine gwalkT (n := 63) (k := 81) (x := "script") hn (by decide) hdf ⟨rfl, by decide, by decide⟩ hY ?_
  intro w mg fa h X G m
  have E := F w mg fa h X G m
  obtain ⟨cB, PB, cR, PR, tabs, ne⟩ := E.tabs
  obtain ⟨CS, CT, XK⟩ := E.kns
  obtain ⟨f, oc, od, kV, doc, pm, an, cd, ct, osl, a, lk, hcd, k⟩ := E.dL
  have e := E.law.symm.trans (PySem.W.mg_of X G a)
  cases e
  have tB := tabs ("_law_bounds", cB, PB) (by simp)
  have tR := tabs ("_law_right", cR, PR) (by simp)
  have hB := hasL_of (ps := ["pot"]) X G E.dB tB.2.1 fun _ _ _ _ _ _ us hl => match us, hl with | [_], _ => rfl
  have hR := hasL_of (ps := ["value"]) X G E.dR tR.2.1 fun _ _ _ _ _ _ us hl => match us, hl with | [_], _ => rfl
  refine ⟨_, lift (K w.params) (TT2 PB PR) (quiet sp_law), PySem.W.fnOf "law" "law" (L2.defArgs st_law) (L2.defBody st_law) (L2.defScope st_law) .none kV doc pm an cd ct, tabs, fun s v => .of_eq rfl, ?_, ?_⟩
  · intro H a ns hl hT hS
    exact due hl hS (hT ("_law_bounds", cB, PB) (by simp)) (hT ("_law_right", cR, PR) (by simp))
  · intro base KB NB TB
    exact all_law E.txt (E.exs _ _ _) XK (TB ("_law_bounds", cB, PB) (by simp)) (TB ("_law_right", cR, PR) (by simp)) ne hB hR lk hcd
end
end K27

/-! DX9c: a def whose last parameter has a whole number as its default, asked without it. -/
namespace DL
open PySem PySem.Spec L2
open PyProof.Rows hiding St
def DfnI (K : PySem.W.Frag) (x : Str) (st : Stmt) (i : Int) : Prop := ∃ (f : Addr) (oc : Value) (od : Option Addr) (T : Addr) (o : Obj) (t : Tok) (n : Nat) (kV doc pm : Value) (an : Option Addr) (cd ct : Value) (osl : Array (Option Value)),
  PySem.W.nsIn K mainGlobals x = some (some (.ref f)) ∧ K.lookup f = some ⟨oc, od, .func (PySem.W.fnOf x x (defArgs st) (defBody st) (defScope st) (.ref T) kV doc pm an cd ct), osl⟩ ∧ PySem.W.codeIn K cd x = true ∧ PySem.W.keepIn K (.ref f) = true ∧ K.lookup T = some o ∧ o.data = .seq [Value.int i t].toArray n
section
variable {K : PySem.W.Frag} {h : Heap} {mg : Str → Option Value} {x : Str} {st : Stmt} {f : Addr} {oc : Value} {od : Option Addr} {kV doc pm : Value} {an : Option Addr} {cd ct : Value} {osl : Array (Option Value)} {i : Int}
theorem dfnI_mk {T : Addr} {c2 : Value} {d2 : Option Addr} {t : Tok} {n : Nat} {s2 : Array (Option Value)} (a : PySem.W.nsIn K mainGlobals x = some (some (.ref f))) (l : K.lookup f = some ⟨oc, od, .func (PySem.W.fnOf x x (defArgs st) (defBody st) (defScope st) (.ref T) kV doc pm an cd ct), osl⟩) (c : PySem.W.codeIn K cd x = true) (k : PySem.W.keepIn K (.ref f) = true)
    (lT : K.lookup T = some ⟨c2, d2, .seq #[.int i t] n, s2⟩) : DfnI K x st i := ⟨f, oc, od, T, _, t, n, kV, doc, pm, an, cd, ct, osl, a, l, c, k, lT, rfl⟩
theorem DfnI.toT (D : DfnI K x st i) : DfnT K x st := by
  obtain ⟨f, oc, od, T, o, t, n, kV, doc, pm, an, cd, ct, osl, a, l, c, k, lT, oT⟩ := D
  exact ⟨f, oc, od, T, o, _, n, kV, doc, pm, an, cd, ct, osl, a, l, c, k, lT, oT⟩
theorem hasI_of (X : K.In h) (G : h.Ns mainGlobals mg) {ps : List Str} (D : DfnI K x st i)
    (b : ∀ (T : Addr) (kV doc pm : Value) (an : Option Addr) (cd ct : Value) (us : List Value) (u : Value), us.length + 1 = ps.length →
      ∃ k, bindArgs (PySem.W.fnOf x x (defArgs st) (defBody st) (defScope st) (.ref T) kV doc pm an cd ct) ⟨us, []⟩ = seqItems? (.ref T) >>= k ∧ k (some #[u]) = pure (ps.zip (us ++ [u]))) : Has K mg x x st ps [.int i] := by
  obtain ⟨f, oc, od, T, o, t, n, kV, doc, pm, an, cd, ct, osl, a, l, c, k, lT, oT⟩ := D
  refine ⟨f, oc, od, .ref T, kV, doc, pm, an, cd, ct, osl, [.int i t], [.int i], l, c, k, PySem.W.mg_of X G a, fun s us X2 hl => ?_, .cons ⟨t, rfl⟩ .nil, fun F => .cons (.int i) .nil⟩
  rw [List.length_append] at hl
  obtain ⟨kk, e1, e2⟩ := b T kV doc pm an cd ct us (.int i t) hl
  refine BindsTo.of_looks fun M => ?_
  rw [e1]
  exact looks_items X2 lT oT (.of_pure e2)
end
end DL

set_option maxHeartbeats 8000000
/-! K27z: the end. -/
namespace K27
open PySem PySem.Spec L2 DL KB
open PyProof.Rows hiding St signs

theorem txt_mk {K : PySem.W.Frag} {h : Heap} {mg : Str → Option Value} (X : K.In h) (G : h.Ns mainGlobals mg) {t_CAT : Tok} {t_CONST : Tok} {t_COPY : Tok} {T_LEAVES : Addr} {od_LEAVES : Option Addr} {its_LEAVES : Array Value} {n_LEAVES : Nat} {sl_LEAVES : Array (Option Value)} {t_MOST_DEEP_lenses : Tok} {t_MOST_DEEP_types : Tok} {t_MOST_LEAF : Tok} {t_MOST_NODES : Tok} {t_MOST_PROGRAMS : Tok} {t_MOST_SHORT : Tok} {t_MOST_SIGNS_lenses : Tok} {T_ONE_PART : Addr} {od_ONE_PART : Option Addr} {its_ONE_PART : Array Value} {n_ONE_PART : Nat} {sl_ONE_PART : Array (Option Value)} {t_OR : Tok} {t_PAIR : Tok} {T_PAIRS : Addr} {od_PAIRS : Option Addr} {its_PAIRS : Array Value} {n_PAIRS : Nat} {sl_PAIRS : Array (Option Value)} {T_ROWED : Addr} {od_ROWED : Option Addr} {its_ROWED : Array Value} {n_ROWED : Nat} {sl_ROWED : Array (Option Value)} {t_SIGN : Tok} {t_SIGNS : Tok} {t_STAR : Tok} {t_SWAP : Tok} {t_TEXT : Tok} {t_TRIPLE : Tok} {T_TWO_PARTS : Addr} {od_TWO_PARTS : Option Addr} {its_TWO_PARTS : Array Value} {n_TWO_PARTS : Nat} {sl_TWO_PARTS : Array (Option Value)} {T_WORDS : Addr} {od_WORDS : Option Addr} {its_WORDS : Array Value} {n_WORDS : Nat} {sl_WORDS : Array (Option Value)}
    (z_abs : PySem.W.nsIn K mainGlobals "abs" = some none)
    (z_all : PySem.W.nsIn K mainGlobals "all" = some none)
    (z_bool : PySem.W.nsIn K mainGlobals "bool" = some none)
    (z_enumerate : PySem.W.nsIn K mainGlobals "enumerate" = some none)
    (z_int : PySem.W.nsIn K mainGlobals "int" = some none)
    (z_isinstance : PySem.W.nsIn K mainGlobals "isinstance" = some none)
    (z_len : PySem.W.nsIn K mainGlobals "len" = some none)
    (z_list : PySem.W.nsIn K mainGlobals "list" = some none)
    (z_max : PySem.W.nsIn K mainGlobals "max" = some none)
    (z_min : PySem.W.nsIn K mainGlobals "min" = some none)
    (z_range : PySem.W.nsIn K mainGlobals "range" = some none)
    (z_repr : PySem.W.nsIn K mainGlobals "repr" = some none)
    (z_set : PySem.W.nsIn K mainGlobals "set" = some none)
    (z_sorted : PySem.W.nsIn K mainGlobals "sorted" = some none)
    (z_str : PySem.W.nsIn K mainGlobals "str" = some none)
    (z_sum : PySem.W.nsIn K mainGlobals "sum" = some none)
    (z_tuple : PySem.W.nsIn K mainGlobals "tuple" = some none)
    (z_zip : PySem.W.nsIn K mainGlobals "zip" = some none)
    (a_CAT : PySem.W.nsIn K mainGlobals "CAT" = some (some (.str "cat" t_CAT)))
    (a_CONST : PySem.W.nsIn K mainGlobals "CONST" = some (some (.str "const" t_CONST)))
    (a_COPY : PySem.W.nsIn K mainGlobals "COPY" = some (some (.str "copy" t_COPY)))
    (a_LEAVES : PySem.W.nsIn K mainGlobals "LEAVES" = some (some (.ref T_LEAVES))) (l_LEAVES : K.lookup T_LEAVES = some ⟨.type "tuple", od_LEAVES, .seq its_LEAVES n_LEAVES, sl_LEAVES⟩) (v_LEAVESx : Vals ((["text", "sign"] : List Str).map L2.V.str) its_LEAVES.toList)
    (a_MOST_DEEP_lenses : PySem.W.nsIn K mainGlobals "MOST_DEEP_lenses" = some (some (.int 20 t_MOST_DEEP_lenses)))
    (a_MOST_DEEP_types : PySem.W.nsIn K mainGlobals "MOST_DEEP_types" = some (some (.int 30 t_MOST_DEEP_types)))
    (a_MOST_LEAF : PySem.W.nsIn K mainGlobals "MOST_LEAF" = some (some (.int 20 t_MOST_LEAF)))
    (a_MOST_NODES : PySem.W.nsIn K mainGlobals "MOST_NODES" = some (some (.int 120 t_MOST_NODES)))
    (a_MOST_PROGRAMS : PySem.W.nsIn K mainGlobals "MOST_PROGRAMS" = some (some (.int 80 t_MOST_PROGRAMS)))
    (a_MOST_SHORT : PySem.W.nsIn K mainGlobals "MOST_SHORT" = some (some (.int 20 t_MOST_SHORT)))
    (a_MOST_SIGNS_lenses : PySem.W.nsIn K mainGlobals "MOST_SIGNS_lenses" = some (some (.int 100 t_MOST_SIGNS_lenses)))
    (a_ONE_PART : PySem.W.nsIn K mainGlobals "ONE_PART" = some (some (.ref T_ONE_PART))) (l_ONE_PART : K.lookup T_ONE_PART = some ⟨.type "tuple", od_ONE_PART, .seq its_ONE_PART n_ONE_PART, sl_ONE_PART⟩) (v_ONE_PARTx : Vals ((["star"] : List Str).map L2.V.str) its_ONE_PART.toList)
    (a_OR : PySem.W.nsIn K mainGlobals "OR" = some (some (.str "or" t_OR)))
    (a_PAIR : PySem.W.nsIn K mainGlobals "PAIR" = some (some (.int 2 t_PAIR)))
    (a_PAIRS : PySem.W.nsIn K mainGlobals "PAIRS" = some (some (.ref T_PAIRS))) (l_PAIRS : K.lookup T_PAIRS = some ⟨.type "tuple", od_PAIRS, .seq its_PAIRS n_PAIRS, sl_PAIRS⟩) (v_PAIRSx : Vals ((["cat", "or"] : List Str).map L2.V.str) its_PAIRS.toList)
    (a_ROWED : PySem.W.nsIn K mainGlobals "ROWED" = some (some (.ref T_ROWED))) (l_ROWED : K.lookup T_ROWED = some ⟨.type "tuple", od_ROWED, .seq its_ROWED n_ROWED, sl_ROWED⟩) (v_ROWEDx : Vals ((["star", "keyed"] : List Str).map L2.V.str) its_ROWED.toList)
    (a_SIGN : PySem.W.nsIn K mainGlobals "SIGN" = some (some (.str "sign" t_SIGN)))
    (a_SIGNS : PySem.W.nsIn K mainGlobals "SIGNS" = some (some (.str "\x0a ,-.0123456789:;=abcdefghijklmnopqrstuvwxyz" t_SIGNS)))
    (a_STAR : PySem.W.nsIn K mainGlobals "STAR" = some (some (.str "star" t_STAR)))
    (a_SWAP : PySem.W.nsIn K mainGlobals "SWAP" = some (some (.str "swap" t_SWAP)))
    (a_TEXT : PySem.W.nsIn K mainGlobals "TEXT" = some (some (.str "text" t_TEXT)))
    (a_TRIPLE : PySem.W.nsIn K mainGlobals "TRIPLE" = some (some (.int 3 t_TRIPLE)))
    (a_TWO_PARTS : PySem.W.nsIn K mainGlobals "TWO_PARTS" = some (some (.ref T_TWO_PARTS))) (l_TWO_PARTS : K.lookup T_TWO_PARTS = some ⟨.type "tuple", od_TWO_PARTS, .seq its_TWO_PARTS n_TWO_PARTS, sl_TWO_PARTS⟩) (v_TWO_PARTSx : Vals ((["cat", "or", "swap", "keyed", "then"] : List Str).map L2.V.str) its_TWO_PARTS.toList)
    (a_WORDS : PySem.W.nsIn K mainGlobals "WORDS" = some (some (.ref T_WORDS))) (l_WORDS : K.lookup T_WORDS = some ⟨.type "tuple", od_WORDS, .seq its_WORDS n_WORDS, sl_WORDS⟩) (v_WORDSx : Vals ((["text", "sign", "cat", "or", "star"] : List Str).map L2.V.str) its_WORDS.toList)
    (d_is_tuple : Dfn K "is_tuple" st_is_tuple)
    (d_is_word : Dfn K "is_word" st_is_word)
    (d_is_text : DfnT K "is_text" st_is_text)
    (d_is_leaf : Dfn K "is_leaf" st_is_leaf)
    (d_is_node : Dfn K "is_node" st_is_node)
    (d_parts_of : Dfn K "parts_of" st_parts_of)
    (d_is_type : Dfn K "is_type" st_is_type)
    (d_programs_in : Dfn K "programs_in" st_programs_in)
    (d_ends_of_type : Dfn K "ends_of_type" st_ends_of_type)
    (d_is_const : Dfn K "is_const" st_is_const)
    (d_many_in : Dfn K "many_in" st_many_in)
    (d_type_of_text : Dfn K "type_of_text" st_type_of_text)
    (d_types_of : Dfn K "types_of" st_types_of)
    (d_are_types_fine : Dfn K "are_types_fine" st_are_types_fine)
    (d_is_program : Dfn K "is_program" st_is_program)
    (d_check_program : Dfn K "check_program" st_check_program)
    (d_source_type : Dfn K "source_type" st_source_type)
    (d_view_type : Dfn K "view_type" st_view_type)
    (d__law_pot : Dfn K "_law_pot" st__law_pot)
    (d__law_take : Dfn K "_law_take" st__law_take)
    (d__law_of : Dfn K "_law_of" st__law_of)
    (d__law_places : Dfn K "_law_places" st__law_places)
    (d__law_heard : Dfn K "_law_heard" st__law_heard)
    (d__law_odd : Dfn K "_law_odd" st__law_odd)
    (d__law_bent : Dfn K "_law_bent" st__law_bent)
    (d__law_ends : Dfn K "_law_ends" st__law_ends)
    (d__law_has : Dfn K "_law_has" st__law_has)
    (d__law_lens_text_type : Dfn K "_law_lens_text_type" st__law_lens_text_type)
    (d__law_lens_types : Dfn K "_law_lens_types" st__law_lens_types)
    (d__law_lens_any : DfnI K "_law_lens_any" st__law_lens_any 2)
    (d__law_lens_type : Dfn K "_law_lens_type" st__law_lens_type)
    (d__law_lens_over : Dfn K "_law_lens_over" st__law_lens_over)
    (d__law_lens_drawn : Dfn K "_law_lens_drawn" st__law_lens_drawn)
    (d__law_lens_parts : Dfn K "_law_lens_parts" st__law_lens_parts)
    (d__law_type_size : Dfn K "_law_type_size" st__law_type_size)
    (d__law_is_type : Dfn K "_law_is_type" st__law_is_type)
    (d__law_is_text : Dfn K "_law_is_text" st__law_is_text)
    (d__law_size : Dfn K "_law_size" st__law_size)
    (d__law_is_program : Dfn K "_law_is_program" st__law_is_program)
    (d__law_row : Dfn K "_law_row" st__law_row)
    (d__law_nested : Dfn K "_law_nested" st__law_nested)
    (d__law_bounds : Dfn K "_law_bounds" st__law_bounds)
    (d__law_right : Dfn K "_law_right" st__law_right) : Txt K mg where
  m_abs := PySem.W.mg_none_of X G z_abs
  m_all := PySem.W.mg_none_of X G z_all
  m_bool := PySem.W.mg_none_of X G z_bool
  m_enumerate := PySem.W.mg_none_of X G z_enumerate
  m_int := PySem.W.mg_none_of X G z_int
  m_isinstance := PySem.W.mg_none_of X G z_isinstance
  m_len := PySem.W.mg_none_of X G z_len
  m_list := PySem.W.mg_none_of X G z_list
  m_max := PySem.W.mg_none_of X G z_max
  m_min := PySem.W.mg_none_of X G z_min
  m_range := PySem.W.mg_none_of X G z_range
  m_repr := PySem.W.mg_none_of X G z_repr
  m_set := PySem.W.mg_none_of X G z_set
  m_sorted := PySem.W.mg_none_of X G z_sorted
  m_str := PySem.W.mg_none_of X G z_str
  m_sum := PySem.W.mg_none_of X G z_sum
  m_tuple := PySem.W.mg_none_of X G z_tuple
  m_zip := PySem.W.mg_none_of X G z_zip
  g_CAT := glob_str X G a_CAT
  g_CONST := glob_str X G a_CONST
  g_COPY := glob_str X G a_COPY
  g_LEAVES := glob_texts (ws := ["text", "sign"]) X G a_LEAVES l_LEAVES v_LEAVESx (KB.small (by decide))
  g_MOST_DEEP_lenses := glob_int X G a_MOST_DEEP_lenses
  g_MOST_DEEP_types := glob_int X G a_MOST_DEEP_types
  g_MOST_LEAF := glob_int X G a_MOST_LEAF
  g_MOST_NODES := glob_int X G a_MOST_NODES
  g_MOST_PROGRAMS := glob_int X G a_MOST_PROGRAMS
  g_MOST_SHORT := glob_int X G a_MOST_SHORT
  g_MOST_SIGNS_lenses := glob_int X G a_MOST_SIGNS_lenses
  g_ONE_PART := glob_texts (ws := ["star"]) X G a_ONE_PART l_ONE_PART v_ONE_PARTx (KB.small (by decide))
  g_OR := glob_str X G a_OR
  g_PAIR := glob_int X G a_PAIR
  g_PAIRS := glob_texts (ws := ["cat", "or"]) X G a_PAIRS l_PAIRS v_PAIRSx (KB.small (by decide))
  g_ROWED := glob_texts (ws := ["star", "keyed"]) X G a_ROWED l_ROWED v_ROWEDx (KB.small (by decide))
  g_SIGN := glob_str X G a_SIGN
  g_SIGNS := glob_str X G a_SIGNS
  g_STAR := glob_str X G a_STAR
  g_SWAP := glob_str X G a_SWAP
  g_TEXT := glob_str X G a_TEXT
  g_TRIPLE := glob_int X G a_TRIPLE
  g_TWO_PARTS := glob_texts (ws := ["cat", "or", "swap", "keyed", "then"]) X G a_TWO_PARTS l_TWO_PARTS v_TWO_PARTSx (KB.small (by decide))
  g_WORDS := glob_texts (ws := ["text", "sign", "cat", "or", "star"]) X G a_WORDS l_WORDS v_WORDSx (KB.small (by decide))
  h_is_tuple := has_of X G d_is_tuple fun _ _ _ _ _ _ us hl => match us, hl with | [_, _, _], _ => rfl
  h_is_word := has_of X G d_is_word fun _ _ _ _ _ _ us hl => match us, hl with | [_, _], _ => rfl
  h_is_text := hasT_of X G d_is_text fun _ _ _ _ _ _ _ us its hl hi => match us, hl, its, hi with | [_, _], _, [_], _ => ⟨_, rfl, rfl⟩
  h_is_leaf := has_of X G d_is_leaf fun _ _ _ _ _ _ us hl => match us, hl with | [_], _ => rfl
  h_is_node := has_of X G d_is_node fun _ _ _ _ _ _ us hl => match us, hl with | [_], _ => rfl
  h_parts_of := has_of X G d_parts_of fun _ _ _ _ _ _ us hl => match us, hl with | [_], _ => rfl
  h_is_type := has_of X G d_is_type fun _ _ _ _ _ _ us hl => match us, hl with | [_], _ => rfl
  h_programs_in := has_of X G d_programs_in fun _ _ _ _ _ _ us hl => match us, hl with | [_], _ => rfl
  h_ends_of_type := has_of X G d_ends_of_type fun _ _ _ _ _ _ us hl => match us, hl with | [_, _, _], _ => rfl
  h_is_const := has_of X G d_is_const fun _ _ _ _ _ _ us hl => match us, hl with | [_], _ => rfl
  h_many_in := has_of X G d_many_in fun _ _ _ _ _ _ us hl => match us, hl with | [_, _], _ => rfl
  h_type_of_text := has_of X G d_type_of_text fun _ _ _ _ _ _ us hl => match us, hl with | [_], _ => rfl
  h_types_of := has_of X G d_types_of fun _ _ _ _ _ _ us hl => match us, hl with | [_], _ => rfl
  h_are_types_fine := has_of X G d_are_types_fine fun _ _ _ _ _ _ us hl => match us, hl with | [_], _ => rfl
  h_is_program := has_of X G d_is_program fun _ _ _ _ _ _ us hl => match us, hl with | [_], _ => rfl
  h_check_program := has_of X G d_check_program fun _ _ _ _ _ _ us hl => match us, hl with | [_], _ => rfl
  h_source_type := has_of X G d_source_type fun _ _ _ _ _ _ us hl => match us, hl with | [_], _ => rfl
  h_view_type := has_of X G d_view_type fun _ _ _ _ _ _ us hl => match us, hl with | [_], _ => rfl
  h__law_pot := has_of X G d__law_pot fun _ _ _ _ _ _ us hl => match us, hl with | [_, _], _ => rfl
  h__law_take := has_of X G d__law_take fun _ _ _ _ _ _ us hl => match us, hl with | [_, _], _ => rfl
  h__law_of := has_of X G d__law_of fun _ _ _ _ _ _ us hl => match us, hl with | [_, _], _ => rfl
  h__law_places := has_of X G d__law_places fun _ _ _ _ _ _ us hl => match us, hl with | [_, _], _ => rfl
  h__law_heard := has_of X G d__law_heard fun _ _ _ _ _ _ us hl => match us, hl with | [_], _ => rfl
  h__law_odd := has_of X G d__law_odd fun _ _ _ _ _ _ us hl => match us, hl with | [_], _ => rfl
  h__law_bent := has_of X G d__law_bent fun _ _ _ _ _ _ us hl => match us, hl with | [_, _], _ => rfl
  h__law_ends := has_of X G d__law_ends fun _ _ _ _ _ _ us hl => match us, hl with | [_, _, _], _ => rfl
  h__law_has := has_of X G d__law_has fun _ _ _ _ _ _ us hl => match us, hl with | [_, _], _ => rfl
  h__law_lens_text_type := has_of X G d__law_lens_text_type fun _ _ _ _ _ _ us hl => match us, hl with | [_], _ => rfl
  h__law_lens_types := has_of X G d__law_lens_types fun _ _ _ _ _ _ us hl => match us, hl with | [_], _ => rfl
  h__law_lens_any := hasT_of X G d__law_lens_any.toT fun _ _ _ _ _ _ _ us its hl hi => match us, hl, its, hi with | [_, _, _], _, [_], _ => ⟨_, rfl, rfl⟩
  d__law_lens_any := hasI_of X G d__law_lens_any fun _ _ _ _ _ _ _ us u hl => match us, hl with | [_, _], _ => ⟨_, rfl, rfl⟩
  h__law_lens_type := has_of X G d__law_lens_type fun _ _ _ _ _ _ us hl => match us, hl with | [_, _], _ => rfl
  h__law_lens_over := has_of X G d__law_lens_over fun _ _ _ _ _ _ us hl => match us, hl with | [_, _], _ => rfl
  h__law_lens_drawn := has_of X G d__law_lens_drawn fun _ _ _ _ _ _ us hl => match us, hl with | [_, _], _ => rfl
  h__law_lens_parts := has_of X G d__law_lens_parts fun _ _ _ _ _ _ us hl => match us, hl with | [_, _], _ => rfl
  h__law_type_size := has_of X G d__law_type_size fun _ _ _ _ _ _ us hl => match us, hl with | [_, _], _ => rfl
  h__law_is_type := has_of X G d__law_is_type fun _ _ _ _ _ _ us hl => match us, hl with | [_], _ => rfl
  h__law_is_text := has_of X G d__law_is_text fun _ _ _ _ _ _ us hl => match us, hl with | [_, _], _ => rfl
  h__law_size := has_of X G d__law_size fun _ _ _ _ _ _ us hl => match us, hl with | [_, _], _ => rfl
  h__law_is_program := has_of X G d__law_is_program fun _ _ _ _ _ _ us hl => match us, hl with | [_], _ => rfl
  h__law_row := has_of X G d__law_row fun _ _ _ _ _ _ us hl => match us, hl with | [_], _ => rfl
  h__law_nested := has_of X G d__law_nested fun _ _ _ _ _ _ us hl => match us, hl with | [_, _], _ => rfl
  h__law_bounds := has_of X G d__law_bounds fun _ _ _ _ _ _ us hl => match us, hl with | [_], _ => rfl
  h__law_right := has_of X G d__law_right fun _ _ _ _ _ _ us hl => match us, hl with | [_], _ => rfl
section
variable {K : PySem.W.Frag} {x : Str} {st : Stmt} {f c PP : Addr} {oc oc2 : Value} {od od2 : Option Addr} {dV kV doc pm : Value} {an : Option Addr} {ct : Value} {osl osl2 : Array (Option Value)} {vs : Array Value}
theorem tab_mk (a : PySem.W.nsIn K mainGlobals x = some (some (.ref f))) (l : K.lookup f = some ⟨oc, od, .func (PySem.W.fnOf x x (L2.defArgs st) (L2.defBody st) (L2.defScope st) dV kV doc pm an (.ref c) ct), osl⟩) (l2 : K.lookup c = some ⟨oc2, od2, .fields vs, osl2⟩) (v : (vs[11]? : Option Value) = some (.ref PP)) : PySem.W.tabIn K x = some (c, PP) := by
  unfold PySem.W.tabIn
  rw [a]
  simp only [l]
  show (match K.lookup c with | some ⟨_, _, .fields vs, _⟩ => _ | _ => none) = _
  rw [l2]
  simp only [v]
theorem tabs_mk {q : Program} {x1 x2 : Str} {c1 P1 c2 P2 : Addr} (f1 : ((recsOf q).find? fun e => e.name == x1).isSome = true) (t1 : PySem.W.tabIn K x1 = some (c1, P1)) (n1 : K.lookup P1 = none) (f2 : ((recsOf q).find? fun e => e.name == x2).isSome = true) (t2 : PySem.W.tabIn K x2 = some (c2, P2)) (n2 : K.lookup P2 = none) :
    TabsOf q K [(x1, c1, P1), (x2, c2, P2)] := by
  intro c hc
  simp at hc
  rcases hc with rfl | rfl
  · exact ⟨f1, t1, n1⟩
  · exact ⟨f2, t2, n2⟩
end
end K27
open PySem PySem.W PyProof.Rows
set_option maxRecDepth 100000 in
set_option maxHeartbeats 0 in
theorem PySem.Challenge.cw_eithermended_k27_programs_by_their_form_holds : PySem.Challenge.rw_eithermended_k27_programs_by_their_form.Holds := by
  w_on; o_law; k_head; (case hw => w_witness2)
  k_fill
  refine K27.walk (l := PySem.Challenge.rw_eithermended_k27_programs_by_their_form) rfl rfl (fun w h Y => PySem.W.km_in_of Y) ?F
  case F =>
    intro w mg fa h KX G hmg
    refine ⟨hmg, ?TX, ?DL, ?DB, ?DR, ?TB, ?EX, ?KN⟩
    (case DL => (refine' DL.dfn_mk ?a ?l ?c ?k; (case a => k_is); (case l => k_is); (case c => k_is); (case k => k_is)))
    (case DB => (refine' DL.dfn_mk ?a ?l ?c ?k; (case a => k_is); (case l => k_is); (case c => k_is); (case k => k_is)))
    (case DR => (refine' DL.dfn_mk ?a ?l ?c ?k; (case a => k_is); (case l => k_is); (case c => k_is); (case k => k_is)))
    (case TX =>
      refine' K27.txt_mk KX G ?z_abs ?z_all ?z_bool ?z_enumerate ?z_int ?z_isinstance ?z_len ?z_list ?z_max ?z_min ?z_range ?z_repr ?z_set ?z_sorted ?z_str ?z_sum ?z_tuple ?z_zip ?a_CAT ?a_CONST ?a_COPY ?a_LEAVES ?l_LEAVES ?v_LEAVESx ?a_MOST_DEEP_lenses ?a_MOST_DEEP_types ?a_MOST_LEAF ?a_MOST_NODES ?a_MOST_PROGRAMS ?a_MOST_SHORT ?a_MOST_SIGNS_lenses ?a_ONE_PART ?l_ONE_PART ?v_ONE_PARTx ?a_OR ?a_PAIR ?a_PAIRS ?l_PAIRS ?v_PAIRSx ?a_ROWED ?l_ROWED ?v_ROWEDx ?a_SIGN ?a_SIGNS ?a_STAR ?a_SWAP ?a_TEXT ?a_TRIPLE ?a_TWO_PARTS ?l_TWO_PARTS ?v_TWO_PARTSx ?a_WORDS ?l_WORDS ?v_WORDSx ?d_is_tuple ?d_is_word ?d_is_text ?d_is_leaf ?d_is_node ?d_parts_of ?d_is_type ?d_programs_in ?d_ends_of_type ?d_is_const ?d_many_in ?d_type_of_text ?d_types_of ?d_are_types_fine ?d_is_program ?d_check_program ?d_source_type ?d_view_type ?d__law_pot ?d__law_take ?d__law_of ?d__law_places ?d__law_heard ?d__law_odd ?d__law_bent ?d__law_ends ?d__law_has ?d__law_lens_text_type ?d__law_lens_types ?d__law_lens_any ?d__law_lens_type ?d__law_lens_over ?d__law_lens_drawn ?d__law_lens_parts ?d__law_type_size ?d__law_is_type ?d__law_is_text ?d__law_size ?d__law_is_program ?d__law_row ?d__law_nested ?d__law_bounds ?d__law_right
      (case z_abs => k_is)
      (case z_all => k_is)
      (case z_bool => k_is)
      (case z_enumerate => k_is)
      (case z_int => k_is)
      (case z_isinstance => k_is)
      (case z_len => k_is)
      (case z_list => k_is)
      (case z_max => k_is)
      (case z_min => k_is)
      (case z_range => k_is)
      (case z_repr => k_is)
      (case z_set => k_is)
      (case z_sorted => k_is)
      (case z_str => k_is)
      (case z_sum => k_is)
      (case z_tuple => k_is)
      (case z_zip => k_is)
      (case a_CAT => k_is)
      (case a_CONST => k_is)
      (case a_COPY => k_is)
      (case a_LEAVES => k_is)
      (case l_LEAVES => k_is)
      (case v_LEAVESx => exact .cons ⟨_, rfl⟩ (.cons ⟨_, rfl⟩ .nil))
      (case a_MOST_DEEP_lenses => k_is)
      (case a_MOST_DEEP_types => k_is)
      (case a_MOST_LEAF => k_is)
      (case a_MOST_NODES => k_is)
      (case a_MOST_PROGRAMS => k_is)
      (case a_MOST_SHORT => k_is)
      (case a_MOST_SIGNS_lenses => k_is)
      (case a_ONE_PART => k_is)
      (case l_ONE_PART => k_is)
      (case v_ONE_PARTx => exact .cons ⟨_, rfl⟩ .nil)
      (case a_OR => k_is)
      (case a_PAIR => k_is)
      (case a_PAIRS => k_is)
      (case l_PAIRS => k_is)
      (case v_PAIRSx => exact .cons ⟨_, rfl⟩ (.cons ⟨_, rfl⟩ .nil))
      (case a_ROWED => k_is)
      (case l_ROWED => k_is)
      (case v_ROWEDx => exact .cons ⟨_, rfl⟩ (.cons ⟨_, rfl⟩ .nil))
      (case a_SIGN => k_is)
      (case a_SIGNS => k_is)
      (case a_STAR => k_is)
      (case a_SWAP => k_is)
      (case a_TEXT => k_is)
      (case a_TRIPLE => k_is)
      (case a_TWO_PARTS => k_is)
      (case l_TWO_PARTS => k_is)
      (case v_TWO_PARTSx => exact .cons ⟨_, rfl⟩ (.cons ⟨_, rfl⟩ (.cons ⟨_, rfl⟩ (.cons ⟨_, rfl⟩ (.cons ⟨_, rfl⟩ .nil)))))
      (case a_WORDS => k_is)
      (case l_WORDS => k_is)
      (case v_WORDSx => exact .cons ⟨_, rfl⟩ (.cons ⟨_, rfl⟩ (.cons ⟨_, rfl⟩ (.cons ⟨_, rfl⟩ (.cons ⟨_, rfl⟩ .nil)))))
      (case d_is_tuple => (refine' DL.dfn_mk ?a ?l ?c ?k; (case a => k_is); (case l => k_is); (case c => k_is); (case k => k_is)))
      (case d_is_word => (refine' DL.dfn_mk ?a ?l ?c ?k; (case a => k_is); (case l => k_is); (case c => k_is); (case k => k_is)))
      (case d_is_text => (refine' DL.dfnT_mk ?a ?l ?c ?k ?t; (case a => k_is); (case l => k_is); (case c => k_is); (case k => k_is); (case t => k_is)))
      (case d_is_leaf => (refine' DL.dfn_mk ?a ?l ?c ?k; (case a => k_is); (case l => k_is); (case c => k_is); (case k => k_is)))
      (case d_is_node => (refine' DL.dfn_mk ?a ?l ?c ?k; (case a => k_is); (case l => k_is); (case c => k_is); (case k => k_is)))
      (case d_parts_of => (refine' DL.dfn_mk ?a ?l ?c ?k; (case a => k_is); (case l => k_is); (case c => k_is); (case k => k_is)))
      (case d_is_type => (refine' DL.dfn_mk ?a ?l ?c ?k; (case a => k_is); (case l => k_is); (case c => k_is); (case k => k_is)))
      (case d_programs_in => (refine' DL.dfn_mk ?a ?l ?c ?k; (case a => k_is); (case l => k_is); (case c => k_is); (case k => k_is)))
      (case d_ends_of_type => (refine' DL.dfn_mk ?a ?l ?c ?k; (case a => k_is); (case l => k_is); (case c => k_is); (case k => k_is)))
      (case d_is_const => (refine' DL.dfn_mk ?a ?l ?c ?k; (case a => k_is); (case l => k_is); (case c => k_is); (case k => k_is)))
      (case d_many_in => (refine' DL.dfn_mk ?a ?l ?c ?k; (case a => k_is); (case l => k_is); (case c => k_is); (case k => k_is)))
      (case d_type_of_text => (refine' DL.dfn_mk ?a ?l ?c ?k; (case a => k_is); (case l => k_is); (case c => k_is); (case k => k_is)))
      (case d_types_of => (refine' DL.dfn_mk ?a ?l ?c ?k; (case a => k_is); (case l => k_is); (case c => k_is); (case k => k_is)))
      (case d_are_types_fine => (refine' DL.dfn_mk ?a ?l ?c ?k; (case a => k_is); (case l => k_is); (case c => k_is); (case k => k_is)))
      (case d_is_program => (refine' DL.dfn_mk ?a ?l ?c ?k; (case a => k_is); (case l => k_is); (case c => k_is); (case k => k_is)))
      (case d_check_program => (refine' DL.dfn_mk ?a ?l ?c ?k; (case a => k_is); (case l => k_is); (case c => k_is); (case k => k_is)))
      (case d_source_type => (refine' DL.dfn_mk ?a ?l ?c ?k; (case a => k_is); (case l => k_is); (case c => k_is); (case k => k_is)))
      (case d_view_type => (refine' DL.dfn_mk ?a ?l ?c ?k; (case a => k_is); (case l => k_is); (case c => k_is); (case k => k_is)))
      (case d__law_pot => (refine' DL.dfn_mk ?a ?l ?c ?k; (case a => k_is); (case l => k_is); (case c => k_is); (case k => k_is)))
      (case d__law_take => (refine' DL.dfn_mk ?a ?l ?c ?k; (case a => k_is); (case l => k_is); (case c => k_is); (case k => k_is)))
      (case d__law_of => (refine' DL.dfn_mk ?a ?l ?c ?k; (case a => k_is); (case l => k_is); (case c => k_is); (case k => k_is)))
      (case d__law_places => (refine' DL.dfn_mk ?a ?l ?c ?k; (case a => k_is); (case l => k_is); (case c => k_is); (case k => k_is)))
      (case d__law_heard => (refine' DL.dfn_mk ?a ?l ?c ?k; (case a => k_is); (case l => k_is); (case c => k_is); (case k => k_is)))
      (case d__law_odd => (refine' DL.dfn_mk ?a ?l ?c ?k; (case a => k_is); (case l => k_is); (case c => k_is); (case k => k_is)))
      (case d__law_bent => (refine' DL.dfn_mk ?a ?l ?c ?k; (case a => k_is); (case l => k_is); (case c => k_is); (case k => k_is)))
      (case d__law_ends => (refine' DL.dfn_mk ?a ?l ?c ?k; (case a => k_is); (case l => k_is); (case c => k_is); (case k => k_is)))
      (case d__law_has => (refine' DL.dfn_mk ?a ?l ?c ?k; (case a => k_is); (case l => k_is); (case c => k_is); (case k => k_is)))
      (case d__law_lens_text_type => (refine' DL.dfn_mk ?a ?l ?c ?k; (case a => k_is); (case l => k_is); (case c => k_is); (case k => k_is)))
      (case d__law_lens_types => (refine' DL.dfn_mk ?a ?l ?c ?k; (case a => k_is); (case l => k_is); (case c => k_is); (case k => k_is)))
      (case d__law_lens_any => (refine' DL.dfnI_mk ?a ?l ?c ?k ?t; (case a => k_is); (case l => k_is); (case c => k_is); (case k => k_is); (case t => k_is)))
      (case d__law_lens_type => (refine' DL.dfn_mk ?a ?l ?c ?k; (case a => k_is); (case l => k_is); (case c => k_is); (case k => k_is)))
      (case d__law_lens_over => (refine' DL.dfn_mk ?a ?l ?c ?k; (case a => k_is); (case l => k_is); (case c => k_is); (case k => k_is)))
      (case d__law_lens_drawn => (refine' DL.dfn_mk ?a ?l ?c ?k; (case a => k_is); (case l => k_is); (case c => k_is); (case k => k_is)))
      (case d__law_lens_parts => (refine' DL.dfn_mk ?a ?l ?c ?k; (case a => k_is); (case l => k_is); (case c => k_is); (case k => k_is)))
      (case d__law_type_size => (refine' DL.dfn_mk ?a ?l ?c ?k; (case a => k_is); (case l => k_is); (case c => k_is); (case k => k_is)))
      (case d__law_is_type => (refine' DL.dfn_mk ?a ?l ?c ?k; (case a => k_is); (case l => k_is); (case c => k_is); (case k => k_is)))
      (case d__law_is_text => (refine' DL.dfn_mk ?a ?l ?c ?k; (case a => k_is); (case l => k_is); (case c => k_is); (case k => k_is)))
      (case d__law_size => (refine' DL.dfn_mk ?a ?l ?c ?k; (case a => k_is); (case l => k_is); (case c => k_is); (case k => k_is)))
      (case d__law_is_program => (refine' DL.dfn_mk ?a ?l ?c ?k; (case a => k_is); (case l => k_is); (case c => k_is); (case k => k_is)))
      (case d__law_row => (refine' DL.dfn_mk ?a ?l ?c ?k; (case a => k_is); (case l => k_is); (case c => k_is); (case k => k_is)))
      (case d__law_nested => (refine' DL.dfn_mk ?a ?l ?c ?k; (case a => k_is); (case l => k_is); (case c => k_is); (case k => k_is)))
      (case d__law_bounds => (refine' DL.dfn_mk ?a ?l ?c ?k; (case a => k_is); (case l => k_is); (case c => k_is); (case k => k_is)))
      (case d__law_right => (refine' DL.dfn_mk ?a ?l ?c ?k; (case a => k_is); (case l => k_is); (case c => k_is); (case k => k_is))))
    (case TB =>
      refine' ⟨_, _, _, _, K27.tabs_mk ?f1 (K27.tab_mk (st := K27.st__law_bounds) ?a1 ?l1 ?m1 ?v1) ?n1 ?f2 (K27.tab_mk (st := K27.st__law_right) ?a2 ?l2 ?m2 ?v2) ?n2, ?ne⟩
      (case a1 => k_is)
      (case l1 => k_is)
      (case m1 => k_is)
      (case v1 => rfl)
      (case a2 => k_is)
      (case l2 => k_is)
      (case m2 => k_is)
      (case v2 => rfl)
      (case f1 => rfl)
      (case f2 => rfl)
      (case n1 => kernel_rfl)
      (case n2 => kernel_rfl)
      (case ne => decide))
    (case EX =>
      intro P0 w0 base0
      refine' ⟨K27.exc_of KX G ?c1 ?mv ?vV⟩
      (case c1 => (refine' K27.cls_mk ?a ?l ?r ?sa ?ex ?ty ?kC ?i1 ?i2 ?lI ?cI ?kI ?nv ?ga ?gg ?hd ?ha ?hn ?ht ?hm; (case a => k_is); (case l => k_is); (case r => rfl); (case sa => k_is); (case ex => k_is); (case ty => k_is); (case kC => k_is); (case i1 => k_is); (case i2 => k_is); (case lI => k_is); (case cI => k_is); (case kI => k_is); (case nv => k_is); (case ga => k_is); (case gg => k_is); (case hd => k_is); (case ha => k_is); (case hn => k_is); (case ht => k_is); (case hm => k_is)))
      (case mv => k_is)
      (case vV => k_is))
    (case KN =>
      refine' ⟨_, _, K27.kns_of KX G ?aS ?cT (PySem.W.exm_ref ?s1 ?s2 ?s3 ?s4) ?k1⟩
      (case aS => k_is)
      (case cT => (refine' K27.cls_mk ?a ?l ?r ?sa ?ex ?ty ?kC ?i1 ?i2 ?lI ?cI ?kI ?nv ?ga ?gg ?hd ?ha ?hn ?ht ?hm; (case a => k_is); (case l => k_is); (case r => rfl); (case sa => k_is); (case ex => k_is); (case ty => k_is); (case kC => k_is); (case i1 => k_is); (case i2 => k_is); (case lI => k_is); (case cI => k_is); (case kI => k_is); (case nv => k_is); (case ga => k_is); (case gg => k_is); (case hd => k_is); (case ha => k_is); (case hn => k_is); (case ht => k_is); (case hm => k_is)))
      (case s1 => k_is)
      (case s2 => k_is)
      (case s3 => k_is)
      (case s4 => k_is)
      (case k1 => kit_is))

