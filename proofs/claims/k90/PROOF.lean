import PyProof.Rows.All
import Wide.All
import OpenK.AllK
import Wide.FinOn
import HandS.ForMost
import HandS.Walk
import HandS.Lambda
import HandS.ExcOwn
import HandS.Wide
import HandS.TupAny
import HandS.IsInst
import HandS.Conv
import HandS.WideBits
import KE.GoesEnum
import KE.GoesMore
import HandS.Style
import PyProof.ListStr
import HandS.SetFor
import HandS.Sort
import PyProof.StrWalks
import HandS.Defaults
import HandS.ExcInit
import HandS.WordsExc
import PySem.Challenge.RW_eithermended_k90_whole_rows_edited_twice
import HandS.ExcIs
import HandS.ExcField
import KE.KExcIs
import HandS.EndBits
import KE.KNest
import HandS.Flt
import PyProof.EnumMake
import HandS.TupMul
import HandS.Replace
import HandS.ReplaceList
import HandS.Strs
import HandS.SortInts
import HandS.More
import HandS.DictComp
import HandS.Small
import PyProof.DictUpdate
import HandS.Iter
import HandS.Star
import HandS.MethStar
import HandS.Deep
import KE.DatumOrd
import KE.DataMinMax
import KE.KDictPairs
import HandS.Codes
set_option Elab.async false
set_option linter.all false
set_option maxRecDepth 100000
/-! DL1: plain data over the hand layer: values by content, what may change by address; the judgements lifted to it. -/
namespace DL
open PySem PySem.Spec L2
open PyProof.Rows hiding St

/-- plain data; ref: an object told by its address -/
inductive D where
  | non | bl (b : Bool) | int (i : Int) | str (x : Str) | tup (xs : List D) | tupx (xs : List D) | lst (xs : List D) | slst (xs : List D) | ref (a : Addr) | dct (ks : List (Int ⊕ Str)) (xs : List D) | exc (x : Str) (v : D) | lam (q : Str) (P : Addr → Addr → Heap → Prop)

/-- at a: an exception of the class at C that was caught, its dict at dx -/
def ExK (C dx a : Addr) : HO := .ext fun h => ∃ (oe : Obj) (vs : Array Value), h.get? a = some oe ∧ Zc (.ref C) (some dx) oe ∧ oe.data = .fields vs
mutual
inductive Rp (K : PySem.W.Frag) (F : Hp) : V → D → Prop
  | non : Rp K F .non .non
  | bl (b : Bool) : Rp K F (.bl b) (.bl b)
  | int (i : Int) : Rp K F (.int i) (.int i)
  | str (x : Str) : Rp K F (.str x) (.str x)
  | ref (a : Addr) : Rp K F (.ref a) (.ref a)
  | tup {a : Addr} {xs : List V} {ds : List D} : SqT K F a xs → RpAll K F xs ds → Rp K F (.ref a) (.tup ds)
  | tupx {a : Addr} {o : Obj} {xs : List V} {ds : List D} : F a = some (.frz o (.tup xs)) → o.dict = none → RpAll K F xs ds → Rp K F (.ref a) (.tupx ds)
  | lst {a : Addr} {xs : List V} {ds : List D} : F a = some (.lst xs) → RpAll K F xs ds → Rp K F (.ref a) (.lst ds)
  | slst {a : Addr} {xs : List V} {ds : List D} : SqL K F a xs → RpAll K F xs ds → Rp K F (.ref a) (.slst ds)
  | dct {a : Addr} {ks : List (Int ⊕ Str)} {xs : List V} {ds : List D} : F a = some (.dK (ks.zip xs)) → ks.length = xs.length → RpAll K F xs ds → Rp K F (.ref a) (.dct ks ds)
  | exc {a C dx : Addr} {u : V} {x : Str} {v : D} : PySem.W.nsIn K mainGlobals x = some (some (.ref C)) → F a = some (ExK C dx a) → F dx = some (.xd [("value", u)]) → Rp K F u v → Rp K F (.ref a) (.exc x v)
  | lam {f c : Addr} {q : Str} {P : Addr → Addr → Heap → Prop} : F f = some (.ext (P f c)) → F c = some (LamX.CodeO c q) → Rp K F (.ref f) (.lam q P)
inductive RpAll (K : PySem.W.Frag) (F : Hp) : List V → List D → Prop
  | nil : RpAll K F [] []
  | cons {v : V} {vs : List V} {d : D} {ds : List D} : Rp K F v d → RpAll K F vs ds → RpAll K F (v :: vs) (d :: ds)
end

theorem Same.tseq {K : PySem.W.Frag} {H H' : Hp} {a : Addr} {xs : List V} (e : Same H H') (h : SqT K H a xs) : SqT K H' a xs := by
  rcases h with (h | ⟨o, h⟩) | h
  · exact .inl (.inl (e _ _ h))
  · exact .inl (.inr ⟨o, e _ _ h⟩)
  · exact .inr h
mutual
theorem Rp.mono {K : PySem.W.Frag} {F F' : Hp} (e : Same F F') : ∀ {v : V} {d : D}, Rp K F v d → Rp K F' v d
  | _, _, .non => .non
  | _, _, .bl b => .bl b
  | _, _, .int i => .int i
  | _, _, .str x => .str x
  | _, _, .ref a => .ref a
  | _, _, .tup s r => .tup (Same.tseq e s) (RpAll.mono e r)
  | _, _, .tupx s d r => .tupx (e _ _ s) d (RpAll.mono e r)
  | _, _, .lst s r => .lst (e _ _ s) (RpAll.mono e r)
  | _, _, .slst s r => .slst (e.seq s) (RpAll.mono e r)
  | _, _, .dct h l r => .dct (e _ _ h) l (RpAll.mono e r)
  | _, _, .exc n h1 h2 r => .exc n (e _ _ h1) (e _ _ h2) (Rp.mono e r)
  | _, _, .lam h1 h2 => .lam (e _ _ h1) (e _ _ h2)
theorem RpAll.mono {K : PySem.W.Frag} {F F' : Hp} (e : Same F F') : ∀ {vs : List V} {ds : List D}, RpAll K F vs ds → RpAll K F' vs ds
  | _, _, .nil => .nil
  | _, _, .cons h t => .cons (Rp.mono e h) (RpAll.mono e t)
end
theorem RpAll.length {K : PySem.W.Frag} {F : Hp} : ∀ {vs : List V} {ds : List D}, RpAll K F vs ds → vs.length = ds.length
  | _, _, .nil => rfl
  | _, _, .cons _ t => congrArg (· + 1) (RpAll.length t)
theorem RpAll.get {K : PySem.W.Frag} {F : Hp} : ∀ {vs : List V} {ds : List D} {i : Nat} {d : D}, RpAll K F vs ds → ds[i]? = some d → ∃ v, vs[i]? = some v ∧ Rp K F v d
  | _, _, _, _, .nil, e => by simp at e
  | _, _, 0, _, .cons h _, e => by simp at e; subst e; exact ⟨_, rfl, h⟩
  | _, _, i + 1, _, .cons _ t, e => by
    obtain ⟨v, h1, h2⟩ := RpAll.get (i := i) t (by simpa using e)
    exact ⟨v, by simpa using h1, h2⟩
theorem RpAll.get' {K : PySem.W.Frag} {F : Hp} : ∀ {vs : List V} {ds : List D} {i : Nat} {v : V}, RpAll K F vs ds → vs[i]? = some v → ∃ d, ds[i]? = some d ∧ Rp K F v d
  | _, _, _, _, .nil, e => by simp at e
  | _, _, 0, _, .cons h _, e => by simp at e; subst e; exact ⟨_, rfl, h⟩
  | _, _, i + 1, _, .cons _ t, e => by
    obtain ⟨v, h1, h2⟩ := RpAll.get' (i := i) t (by simpa using e)
    exact ⟨v, by simpa using h1, h2⟩
theorem RpAll.append {K : PySem.W.Frag} {F : Hp} : ∀ {vs ws : List V} {ds es : List D}, RpAll K F vs ds → RpAll K F ws es → RpAll K F (vs ++ ws) (ds ++ es)
  | _, _, _, _, .nil, s => s
  | _, _, _, _, .cons h t, s => .cons h (RpAll.append t s)
theorem RpAll.take {K : PySem.W.Frag} {F : Hp} : ∀ {vs : List V} {ds : List D} (n : Nat), RpAll K F vs ds → RpAll K F (vs.take n) (ds.take n)
  | _, _, 0, _ => by simpa using RpAll.nil
  | _, _, _ + 1, .nil => .nil
  | _, _, n + 1, .cons h t => .cons h (RpAll.take n t)
theorem RpAll.drop {K : PySem.W.Frag} {F : Hp} : ∀ {vs : List V} {ds : List D} (n : Nat), RpAll K F vs ds → RpAll K F (vs.drop n) (ds.drop n)
  | _, _, 0, r => by simpa using r
  | _, _, _ + 1, .nil => .nil
  | _, _, n + 1, .cons _ t => RpAll.drop n t
theorem RpAll.set {K : PySem.W.Frag} {F : Hp} {v : V} {d : D} (h : Rp K F v d) : ∀ {vs : List V} {ds : List D} (n : Nat), RpAll K F vs ds → RpAll K F (vs.set n v) (ds.set n d)
  | _, _, _, .nil => .nil
  | _, _, 0, .cons _ t => .cons h t
  | _, _, n + 1, .cons x t => .cons x (RpAll.set h n t)
theorem RpAll.dropLast {K : PySem.W.Frag} {F : Hp} {vs : List V} {ds : List D} (h : RpAll K F vs ds) : RpAll K F vs.dropLast ds.dropLast := by
  rw [List.dropLast_eq_take, List.dropLast_eq_take, h.length]
  exact h.take _
theorem RpAll.eraseIdx {K : PySem.W.Frag} {F : Hp} : ∀ {vs : List V} {ds : List D} (n : Nat), RpAll K F vs ds → RpAll K F (vs.eraseIdx n) (ds.eraseIdx n)
  | _, _, _, .nil => .nil
  | _, _, 0, .cons _ t => t
  | _, _, n + 1, .cons x t => .cons x (RpAll.eraseIdx n t)
theorem RpAll.reverse {K : PySem.W.Frag} {F : Hp} : ∀ {vs : List V} {ds : List D}, RpAll K F vs ds → RpAll K F vs.reverse ds.reverse
  | _, _, .nil => .nil
  | _, _, .cons h t => by
    rw [List.reverse_cons, List.reverse_cons]
    exact (RpAll.reverse t).append (.cons h .nil)
theorem RpAll.rep {K : PySem.W.Frag} {F : Hp} {vs : List V} {ds : List D} (h : RpAll K F vs ds) : ∀ k : Nat, RpAll K F (List.replicate k vs).flatten (List.replicate k ds).flatten
  | 0 => .nil
  | k + 1 => by
    rw [List.replicate_succ, List.replicate_succ, List.flatten_cons, List.flatten_cons]
    exact h.append (RpAll.rep h k)

/-! ### the fields of an object -/
inductive RpFs (K : PySem.W.Frag) (F : Hp) : List (Str × V) → List (Str × D) → Prop
  | nil : RpFs K F [] []
  | cons {x : Str} {v : V} {d : D} {vs : List (Str × V)} {ds : List (Str × D)} : Rp K F v d → RpFs K F vs ds → RpFs K F ((x, v) :: vs) ((x, d) :: ds)
theorem RpFs.mono {K : PySem.W.Frag} {F F' : Hp} (e : Same F F') : ∀ {vs : List (Str × V)} {ds : List (Str × D)}, RpFs K F vs ds → RpFs K F' vs ds
  | _, _, .nil => .nil
  | _, _, .cons h t => .cons (h.mono e) (RpFs.mono e t)
theorem RpFs.length {K : PySem.W.Frag} {F : Hp} : ∀ {vs : List (Str × V)} {ds : List (Str × D)}, RpFs K F vs ds → vs.length = ds.length
  | _, _, .nil => rfl
  | _, _, .cons _ t => congrArg (· + 1) (RpFs.length t)
theorem RpFs.look {K : PySem.W.Frag} {F : Hp} {f : Str} {d : D} : ∀ {vs : List (Str × V)} {ds : List (Str × D)}, RpFs K F vs ds → ds.lookup f = some d → ∃ v, vs.lookup f = some v ∧ Rp K F v d
  | _, _, .nil, e => by simp at e
  | (x, v) :: _, (_, d0) :: _, .cons h t, e => by
    by_cases q : f = x
    · have hb : (f == x) = true := beq_iff_eq.mpr q
      simp only [List.lookup, hb] at e ⊢
      cases e; exact ⟨v, rfl, h⟩
    · have hb : (f == x) = false := beq_eq_false_iff_ne.mpr q
      simp only [List.lookup, hb] at e ⊢
      exact RpFs.look t e
theorem RpFs.look0 {K : PySem.W.Frag} {F : Hp} {f : Str} : ∀ {vs : List (Str × V)} {ds : List (Str × D)}, RpFs K F vs ds → ds.lookup f = none → vs.lookup f = none
  | _, _, .nil, _ => rfl
  | (x, v) :: _, (_, d0) :: _, .cons h t, e => by
    by_cases q : f = x
    · have hb : (f == x) = true := beq_iff_eq.mpr q
      simp only [List.lookup, hb] at e
      cases e
    · have hb : (f == x) = false := beq_eq_false_iff_ne.mpr q
      simp only [List.lookup, hb] at e ⊢
      exact RpFs.look0 t e
/-! ### the entries of a dict -/
inductive RpKs (K : PySem.W.Frag) (F : Hp) : List ((Int ⊕ Str) × V) → List ((Int ⊕ Str) × D) → Prop
  | nil : RpKs K F [] []
  | cons {x : Int ⊕ Str} {v : V} {d : D} {vs : List ((Int ⊕ Str) × V)} {ds : List ((Int ⊕ Str) × D)} : Rp K F v d → RpKs K F vs ds → RpKs K F ((x, v) :: vs) ((x, d) :: ds)
theorem RpKs.mono {K : PySem.W.Frag} {F F' : Hp} (e : Same F F') : ∀ {vs : List ((Int ⊕ Str) × V)} {ds : List ((Int ⊕ Str) × D)}, RpKs K F vs ds → RpKs K F' vs ds
  | _, _, .nil => .nil
  | _, _, .cons h t => .cons (h.mono e) (RpKs.mono e t)
theorem RpKs.length {K : PySem.W.Frag} {F : Hp} : ∀ {vs : List ((Int ⊕ Str) × V)} {ds : List ((Int ⊕ Str) × D)}, RpKs K F vs ds → vs.length = ds.length
  | _, _, .nil => rfl
  | _, _, .cons _ t => congrArg (· + 1) (RpKs.length t)
theorem RpKs.keys {K : PySem.W.Frag} {F : Hp} : ∀ {vs : List ((Int ⊕ Str) × V)} {ds : List ((Int ⊕ Str) × D)}, RpKs K F vs ds → vs.map (·.1) = ds.map (·.1)
  | _, _, .nil => rfl
  | _, _, .cons _ t => by rw [List.map_cons, List.map_cons, RpKs.keys t]
def putD (f : Str) (v : D) : List (Str × D) → List (Str × D)
  | [] => [(f, v)]
  | (g, x) :: r => if g = f then (g, v) :: r else (g, x) :: putD f v r
theorem RpFs.put {K : PySem.W.Frag} {F : Hp} {f : Str} {v : V} {d : D} (r : Rp K F v d) : ∀ {vs : List (Str × V)} {ds : List (Str × D)}, RpFs K F vs ds → RpFs K F (putF f v vs) (putD f d ds)
  | _, _, .nil => .cons r .nil
  | (x, _) :: _, (_, _) :: _, .cons h t => by
    show RpFs K F (if x = f then _ else _) (if x = f then _ else _)
    by_cases q : x = f
    · rw [if_pos q, if_pos q]; exact .cons r t
    · rw [if_neg q, if_neg q]; exact .cons h (RpFs.put r t)

/-! ### what may change -/
inductive MO where
  | lst (ds : List D)
  | obj (x : Str) (fs : List (Str × D))
  | dic (kvs : List ((Int ⊕ Str) × D))
abbrev Mp := Addr → Option MO
def mu (M : Mp) (a : Addr) (o : MO) : Mp := fun b => if b = a then some o else M b
theorem mu_same {M : Mp} {a : Addr} {o : MO} : mu M a o a = some o := by unfold mu; rw [if_pos rfl]
theorem mu_ne {M : Mp} {a b : Addr} {o : MO} (h : b ≠ a) : mu M a o b = M b := by unfold mu; rw [if_neg h]
theorem mu_mu {M : Mp} {a : Addr} {o u : MO} : mu (mu M a o) a u = mu M a u := by
  funext b; unfold mu; split <;> rfl
def md (M : Mp) (a : Addr) : Mp := fun b => if b = a then none else M b
theorem md_mu {M : Mp} {a : Addr} {o : MO} (h : M a = none) : md (mu M a o) a = M := by
  funext b; unfold md mu
  by_cases e : b = a
  · rw [if_pos e, e, h]
  · rw [if_neg e, if_neg e]

def RepO (K : PySem.W.Frag) (F : Hp) : HO → MO → Prop
  | .lst xs, .lst ds => RpAll K F xs ds
  | .ins C _ fs, .obj x ds => PySem.W.nsIn K mainGlobals x = some (some (.ref C)) ∧ RpFs K F fs ds
  | .dK vs, .dic ds => RpKs K F vs ds
  | _, _ => False
theorem RepO.mono {K : PySem.W.Frag} {F F' : Hp} (e : Same F F') {o : HO} {m : MO} (h : RepO K F o m) : RepO K F' o m := by
  cases o <;> cases m <;> simp only [RepO] at h ⊢
  · exact h.mono e
  · exact h.mono e
  · exact ⟨h.1, h.2.mono e⟩
abbrev TT8 := List (Addr × Str)
/-- what is tracked, what may change; no table of code objects is held fast -/
structure RelR (K : PySem.W.Frag) (F : Hp) (M : Mp) (H : Hp) : Prop where
  sub : Same F H
  mt : ∀ a m, M a = some m → F a = none ∧ ∃ o, H a = some o ∧ RepO K F o m
  nt : ∀ a ps, F a ≠ some (.tbl ps)

/-- a step of the state: what is held fast stays, what isn't told stays untouched and untold, the tables are kept in order -/
structure StpR (K : PySem.W.Frag) (T : TT8) (F : Hp) (M : Mp) (H : Hp) (F' : Hp) (M' : Mp) (H' : Hp) : Prop where
  same : Same F F'
  rel : RelR K F' M' H'
  fr : ∀ a o, H a = some o → F a = none → M a = none → (∀ ps, o ≠ .tbl ps) → H' a = some o ∧ (F' a = none ∨ (∃ c q, o = LamX.CodeO c q) ∧ F' a = some o) ∧ M' a = none
  tab : LamX.Tabs T H → LamX.Tabs T H'
theorem StpR.refl {K : PySem.W.Frag} {T : TT8} {F : Hp} {M : Mp} {H : Hp} (R : RelR K F M H) : StpR K T F M H F M H := ⟨Same.refl F, R, fun _ _ h f m _ => ⟨h, .inl f, m⟩, id⟩
theorem StpR.trans {K : PySem.W.Frag} {T : TT8} {F F1 F2 : Hp} {M M1 M2 : Mp} {H H1 H2 : Hp} (a : StpR K T F M H F1 M1 H1) (b : StpR K T F1 M1 H1 F2 M2 H2) : StpR K T F M H F2 M2 H2 :=
  by
  refine ⟨a.same.trans b.same, b.rel, fun x o h f m n => ?_, fun t => b.tab (a.tab t)⟩
  obtain ⟨h1, f1, m1⟩ := a.fr x o h f m n
  rcases f1 with f1 | ⟨c, f1⟩
  · exact b.fr x o h1 f1 m1 n
  · have f2 := b.same _ _ f1
    refine ⟨b.rel.sub _ _ f2, .inr ⟨c, f2⟩, ?_⟩
    cases e : M2 x with
    | none => rfl
    | some m =>
      have q := (b.rel.mt x m e).1
      rw [f2] at q
      cases q
/-- what is no code object -/
theorem StpR.frN {K : PySem.W.Frag} {T : TT8} {F F' : Hp} {M M' : Mp} {H H' : Hp} (s : StpR K T F M H F' M' H') {a : Addr} {o : HO} (h : H a = some o) (f : F a = none) (m : M a = none) (n : ∀ ps, o ≠ .tbl ps) (nc : ∀ c q, LamX.CodeO c q ≠ o) : H' a = some o ∧ F' a = none ∧ M' a = none := by
  obtain ⟨h1, f1, m1⟩ := s.fr a o h f m n
  rcases f1 with f1 | ⟨⟨c, q, e⟩, _⟩
  · exact ⟨h1, f1, m1⟩
  · exact absurd e.symm (nc c q)
section
variable {K : PySem.W.Frag} {T : TT8} {F : Hp} {M : Mp} {H : Hp}
theorem RelR.fnone (R : RelR K F M H) {p : Addr} (h : H p = none) : F p = none := R.sub.free h
theorem RelR.mnone (R : RelR K F M H) {p : Addr} (h : H p = none) : M p = none := by
  cases q : M p with
  | none => rfl
  | some m =>
    obtain ⟨_, o, e, _⟩ := R.mt p m q
    rw [h] at e; cases e
theorem same_new {F : Hp} {p : Addr} {o : HO} (h : F p = none) : Same F (upd F p o) := fun b u q => by rw [upd_ne (ne_of_none q h)]; exact q
theorem tabs_new {p : Addr} (h : H p = none) (o : HO) (t : LamX.Tabs T H) : LamX.Tabs T (upd H p o) := LamX.Tabs.ext t fun b u e => by rw [upd_ne (ne_of_none e h)]; exact e
theorem code_lst {c : Addr} {q : Str} {xs : List V} : LamX.CodeO c q ≠ .lst xs := fun h => by unfold LamX.CodeO at h; cases h
theorem tabs_lst {p : Addr} {xs ys : List V} (h : H p = some (.lst xs)) (t : LamX.Tabs T H) : LamX.Tabs T (upd H p (.lst ys)) := fun z hz => by
  obtain ⟨ps, h1, h2, h3⟩ := t z hz
  refine ⟨ps, ?_, h2, fun pos cv hc => ?_⟩
  · rw [upd_ne (fun e => by rw [e, h] at h1; cases h1)]; exact h1
  · obtain ⟨c, e1, e2⟩ := h3 pos cv hc
    refine ⟨c, e1, ?_⟩
    rw [upd_ne (fun e => by rw [e, h] at e2; exact code_lst (Option.some.inj e2).symm)]; exact e2
/-- a new object that never changes -/
theorem RelR.newF (R : RelR K F M H) {p : Addr} (h : H p = none) (o : HO) (hn : ∀ ps, o ≠ .tbl ps) : StpR K T F M H (upd F p o) M (upd H p o) := by
  have s : Same F (upd F p o) := same_new (R.fnone h)
  refine ⟨s, ⟨fun b u q => ?_, fun a m q => ?_, fun a ps q => ?_⟩, fun a u q f m _ => ?_, tabs_new h o⟩
  · by_cases e : b = p
    · subst e; rw [upd_same] at q ⊢; exact q
    · rw [upd_ne e] at q ⊢; exact R.sub _ _ q
  · obtain ⟨f, u, e, r⟩ := R.mt a m q
    have ne : a ≠ p := ne_of_none e h
    exact ⟨by rw [upd_ne ne]; exact f, u, by rw [upd_ne ne]; exact e, r.mono s⟩
  · by_cases e : a = p
    · subst e; rw [upd_same] at q; exact hn ps (Option.some.inj q)
    · rw [upd_ne e] at q; exact R.nt a ps q
  · have ne : a ≠ p := ne_of_none q h
    rw [upd_ne ne, upd_ne ne]; exact ⟨q, .inl f, m⟩
/-- a new object that may change -/
theorem RelR.newM (R : RelR K F M H) {p : Addr} (h : H p = none) {o : HO} {m : MO} (r : RepO K F o m) : StpR K T F M H F (mu M p m) (upd H p o) := by
  refine ⟨Same.refl F, ⟨fun b u q => ?_, fun a n q => ?_, R.nt⟩, fun a u q f n _ => ?_, tabs_new h o⟩
  · have e : b ≠ p := ne_of_none (R.sub _ _ q) h
    rw [upd_ne e]; exact R.sub _ _ q
  · by_cases e : a = p
    · subst e
      rw [mu_same] at q; cases q
      exact ⟨R.fnone h, o, upd_same, r⟩
    · rw [mu_ne e] at q
      obtain ⟨f, u, e2, r2⟩ := R.mt a n q
      exact ⟨f, u, by rw [upd_ne e]; exact e2, r2⟩
  · have ne : a ≠ p := ne_of_none q h
    rw [upd_ne ne, mu_ne ne]; exact ⟨q, .inl f, n⟩
/-- a list that may change is changed -/
theorem RelR.set (R : RelR K F M H) {p : Addr} {ds0 ds : List D} (h : M p = some (.lst ds0)) {xs : List V} (r : RpAll K F xs ds) : StpR K T F M H F (mu M p (.lst ds)) (upd H p (.lst xs)) := by
  obtain ⟨f0, o0, e0, r0⟩ := R.mt p _ h
  have e1 : ∃ ys, o0 = .lst ys := by
    cases o0 with
    | lst ys => exact ⟨ys, rfl⟩
    | _ => exact r0.elim
  obtain ⟨ys, rfl⟩ := e1
  refine ⟨Same.refl F, ⟨fun b u q => ?_, fun a n q => ?_, R.nt⟩, fun a u q f n _ => ?_, tabs_lst e0⟩
  · have e : b ≠ p := ne_of_none q f0
    rw [upd_ne e]; exact R.sub _ _ q
  · by_cases e : a = p
    · subst e
      rw [mu_same] at q; cases q
      exact ⟨f0, _, upd_same, r⟩
    · rw [mu_ne e] at q
      obtain ⟨f, u, e2, r2⟩ := R.mt a n q
      exact ⟨f, u, by rw [upd_ne e]; exact e2, r2⟩
  · have ne : a ≠ p := fun e => by subst e; rw [h] at n; cases n
    rw [upd_ne ne, mu_ne ne]; exact ⟨q, .inl f, n⟩
theorem code_ins {c : Addr} {q : Str} {C dx : Addr} {fs : List (Str × V)} : LamX.CodeO c q ≠ .ins C dx fs := fun h => by unfold LamX.CodeO at h; cases h
theorem tabs_ins {p C dx : Addr} {fs fs' : List (Str × V)} (h : H p = some (.ins C dx fs)) (t : LamX.Tabs T H) : LamX.Tabs T (upd H p (.ins C dx fs')) := fun z hz => by
  obtain ⟨ps, h1, h2, h3⟩ := t z hz
  refine ⟨ps, ?_, h2, fun pos cv hc => ?_⟩
  · rw [upd_ne (fun e => by rw [e, h] at h1; cases h1)]; exact h1
  · obtain ⟨c, e1, e2⟩ := h3 pos cv hc
    refine ⟨c, e1, ?_⟩
    rw [upd_ne (fun e => by rw [e, h] at e2; exact code_ins (Option.some.inj e2).symm)]; exact e2
theorem tabs_not {p : Addr} {o0 o : HO} (h : H p = some o0) (n1 : ∀ ps, o0 ≠ .tbl ps) (n2 : ∀ c q, LamX.CodeO c q ≠ o0) (t : LamX.Tabs T H) : LamX.Tabs T (upd H p o) := fun z hz => by
  obtain ⟨ps, h1, h2, h3⟩ := t z hz
  refine ⟨ps, ?_, h2, fun pos cv hc => ?_⟩
  · rw [upd_ne (fun e => by rw [e, h] at h1; exact n1 ps (Option.some.inj h1))]; exact h1
  · obtain ⟨c, e1, e2⟩ := h3 pos cv hc
    refine ⟨c, e1, ?_⟩
    rw [upd_ne (fun e => by rw [e, h] at e2; exact n2 _ _ (Option.some.inj e2).symm)]; exact e2
/-- an object that may change is changed -/
theorem RelR.put (R : RelR K F M H) {p : Addr} {m0 m : MO} {o0 o : HO} (h : M p = some m0) (e0 : H p = some o0) (n1 : ∀ ps, o0 ≠ .tbl ps) (n2 : ∀ c q, LamX.CodeO c q ≠ o0) (r : RepO K F o m) : StpR K T F M H F (mu M p m) (upd H p o) := by
  obtain ⟨f0, _, _, _⟩ := R.mt p _ h
  refine ⟨Same.refl F, ⟨fun b u q => ?_, fun a n q => ?_, R.nt⟩, fun a u q f n _ => ?_, tabs_not e0 n1 n2⟩
  · have e : b ≠ p := ne_of_none q f0
    rw [upd_ne e]; exact R.sub _ _ q
  · by_cases e : a = p
    · subst e
      rw [mu_same] at q; cases q
      exact ⟨f0, _, upd_same, r⟩
    · rw [mu_ne e] at q
      obtain ⟨f, u, e2, r2⟩ := R.mt a n q
      exact ⟨f, u, by rw [upd_ne e]; exact e2, r2⟩
  · have ne : a ≠ p := fun e => by subst e; rw [h] at n; cases n
    rw [upd_ne ne, mu_ne ne]; exact ⟨q, .inl f, n⟩
theorem RelR.dic (R : RelR K F M H) {p : Addr} {ds : List ((Int ⊕ Str) × D)} (h : M p = some (.dic ds)) : ∃ vs, H p = some (.dK vs) ∧ RpKs K F vs ds := by
  obtain ⟨_, o, e0, r0⟩ := R.mt p _ h
  cases o with
  | dK vs => exact ⟨vs, e0, r0⟩
  | _ => exact r0.elim
theorem RelR.obj (R : RelR K F M H) {p : Addr} {x : Str} {ds : List (Str × D)} (h : M p = some (.obj x ds)) : ∃ C dx fs, H p = some (.ins C dx fs) ∧ PySem.W.nsIn K mainGlobals x = some (some (.ref C)) ∧ RpFs K F fs ds := by
  obtain ⟨_, o, e0, r0⟩ := R.mt p _ h
  cases o with
  | ins C dx fs => exact ⟨C, dx, fs, e0, r0.1, r0.2⟩
  | _ => exact r0.elim
/-- a field of an object is changed -/
theorem RelR.setO (R : RelR K F M H) {p C dx : Addr} {x : Str} {ds0 ds : List (Str × D)} {fs0 fs : List (Str × V)} (h : M p = some (.obj x ds0)) (e0 : H p = some (.ins C dx fs0)) (n : PySem.W.nsIn K mainGlobals x = some (some (.ref C))) (r : RpFs K F fs ds) :
    StpR K T F M H F (mu M p (.obj x ds)) (upd H p (.ins C dx fs)) := by
  obtain ⟨f0, _, _, _⟩ := R.mt p _ h
  refine ⟨Same.refl F, ⟨fun b u q => ?_, fun a m q => ?_, R.nt⟩, fun a u q f m _ => ?_, tabs_ins e0⟩
  · have e : b ≠ p := ne_of_none q f0
    rw [upd_ne e]; exact R.sub _ _ q
  · by_cases e : a = p
    · subst e
      rw [mu_same] at q; cases q
      exact ⟨f0, _, upd_same, n, r⟩
    · rw [mu_ne e] at q
      obtain ⟨f, u, e2, r2⟩ := R.mt a m q
      exact ⟨f, u, by rw [upd_ne e]; exact e2, r2⟩
  · have ne : a ≠ p := fun e => by subst e; rw [h] at m; cases m
    rw [upd_ne ne, mu_ne ne]; exact ⟨q, .inl f, m⟩
/-- an object that may change is held fast from here on -/
theorem RelR.hold (R : RelR K F M H) {p : Addr} {ds : List D} (h : M p = some (.lst ds)) : ∃ F', StpR K T F M H F' (md M p) H ∧ Rp K F' (.ref p) (.lst ds) := by
  obtain ⟨f0, o, e0, r0⟩ := R.mt p _ h
  cases o with
  | lst xs =>
    have s : Same F (upd F p (.lst xs)) := same_new f0
    refine ⟨upd F p (.lst xs), ⟨s, ⟨fun b u q => ?_, fun a m q => ?_, fun a ps q => ?_⟩, fun a u q f n _ => ?_, id⟩, .lst upd_same (RpAll.mono s r0)⟩
    · by_cases e : b = p
      · subst e; rw [upd_same] at q; rw [e0, ← q]
      · rw [upd_ne e] at q; exact R.sub _ _ q
    · unfold md at q
      by_cases e : a = p
      · rw [if_pos e] at q; cases q
      · rw [if_neg e] at q
        obtain ⟨f, u, e2, r2⟩ := R.mt a m q
        exact ⟨by rw [upd_ne e]; exact f, u, e2, r2.mono s⟩
    · by_cases e : a = p
      · subst e; rw [upd_same] at q; cases q
      · rw [upd_ne e] at q; exact R.nt a ps q
    · have ne : a ≠ p := fun e => by subst e; rw [h] at n; cases n
      unfold md
      rw [upd_ne ne, if_neg ne]; exact ⟨q, .inl f, n⟩
  | _ => exact r0.elim
theorem RelR.lst (R : RelR K F M H) {p : Addr} {ds : List D} (h : M p = some (.lst ds)) : ∃ xs, H p = some (.lst xs) ∧ RpAll K F xs ds := by
  obtain ⟨_, o, e0, r0⟩ := R.mt p _ h
  cases o with
  | lst xs => exact ⟨xs, e0, r0⟩
  | _ => exact r0.elim
end
/-- what is kept in sight beside: the tables, and any J that lasts through steps -/
structure KJ (K : PySem.W.Frag) where
  T : TT8
  J : Hp → Mp → Hp → Prop
  cl : ∀ {F : Hp} {M : Mp} {H F' : Hp} {M' : Mp} {H' : Hp}, J F M H → StpR K T F M H F' M' H' → J F' M' H'
structure Rel {K : PySem.W.Frag} (Y : KJ K) (F : Hp) (M : Mp) (H : Hp) : Prop where
  r : RelR K F M H
  j : Y.J F M H
theorem Rel.sub {K : PySem.W.Frag} {Y : KJ K} {F : Hp} {M : Mp} {H : Hp} (R : Rel Y F M H) : Same F H := R.r.sub
theorem Rel.mt {K : PySem.W.Frag} {Y : KJ K} {F : Hp} {M : Mp} {H : Hp} (R : Rel Y F M H) : ∀ a m, M a = some m → F a = none ∧ ∃ o, H a = some o ∧ RepO K F o m := R.r.mt
structure Stp {K : PySem.W.Frag} (Y : KJ K) (F : Hp) (M : Mp) (H : Hp) (F' : Hp) (M' : Mp) (H' : Hp) : Prop where
  s : StpR K Y.T F M H F' M' H'
  rel : Rel Y F' M' H'
theorem Stp.same {K : PySem.W.Frag} {Y : KJ K} {F F' : Hp} {M M' : Mp} {H H' : Hp} (s : Stp Y F M H F' M' H') : Same F F' := s.s.same
theorem Stp.fr {K : PySem.W.Frag} {Y : KJ K} {F F' : Hp} {M M' : Mp} {H H' : Hp} (s : Stp Y F M H F' M' H') : ∀ a o, H a = some o → F a = none → M a = none → (∀ ps, o ≠ .tbl ps) → H' a = some o ∧ (F' a = none ∨ (∃ c q, o = LamX.CodeO c q) ∧ F' a = some o) ∧ M' a = none := s.s.fr
theorem Stp.frN {K : PySem.W.Frag} {Y : KJ K} {F F' : Hp} {M M' : Mp} {H H' : Hp} (s : Stp Y F M H F' M' H') {a : Addr} {o : HO} (h : H a = some o) (f : F a = none) (m : M a = none) (n : ∀ ps, o ≠ .tbl ps) (nc : ∀ c q, LamX.CodeO c q ≠ o) : H' a = some o ∧ F' a = none ∧ M' a = none := s.s.frN h f m n nc
theorem Stp.of {K : PySem.W.Frag} {Y : KJ K} {F F' : Hp} {M M' : Mp} {H H' : Hp} (R : Rel Y F M H) (s : StpR K Y.T F M H F' M' H') : Stp Y F M H F' M' H' := ⟨s, s.rel, Y.cl R.j s⟩
theorem Stp.refl {K : PySem.W.Frag} {Y : KJ K} {F : Hp} {M : Mp} {H : Hp} (R : Rel Y F M H) : Stp Y F M H F M H := ⟨StpR.refl R.r, R⟩
theorem Stp.trans {K : PySem.W.Frag} {Y : KJ K} {F F1 F2 : Hp} {M M1 M2 : Mp} {H H1 H2 : Hp} (a : Stp Y F M H F1 M1 H1) (b : Stp Y F1 M1 H1 F2 M2 H2) : Stp Y F M H F2 M2 H2 := ⟨a.s.trans b.s, b.rel⟩
section
variable {K : PySem.W.Frag} {Y : KJ K} {F : Hp} {M : Mp} {H : Hp}
theorem Rel.fnone (R : Rel Y F M H) {p : Addr} (h : H p = none) : F p = none := R.r.fnone h
theorem Rel.mnone (R : Rel Y F M H) {p : Addr} (h : H p = none) : M p = none := R.r.mnone h
theorem Rel.newF (R : Rel Y F M H) {p : Addr} (h : H p = none) (o : HO) (hn : ∀ ps, o ≠ .tbl ps := by intro ps z; cases z) : Stp Y F M H (upd F p o) M (upd H p o) := Stp.of R (R.r.newF h o hn)
theorem Rel.newM (R : Rel Y F M H) {p : Addr} (h : H p = none) {o : HO} {m : MO} (r : RepO K F o m) : Stp Y F M H F (mu M p m) (upd H p o) := Stp.of R (R.r.newM h r)
theorem Rel.set (R : Rel Y F M H) {p : Addr} {ds0 ds : List D} (h : M p = some (.lst ds0)) {xs : List V} (r : RpAll K F xs ds) : Stp Y F M H F (mu M p (.lst ds)) (upd H p (.lst xs)) := Stp.of R (R.r.set h r)
theorem Rel.hold (R : Rel Y F M H) {p : Addr} {ds : List D} (h : M p = some (.lst ds)) : ∃ F', Stp Y F M H F' (md M p) H ∧ Rp K F' (.ref p) (.lst ds) := let ⟨F', s, r⟩ := R.r.hold h; ⟨F', Stp.of R s, r⟩
theorem code_dK {c : Addr} {q : Str} {vs : List ((Int ⊕ Str) × V)} : LamX.CodeO c q ≠ .dK vs := fun h => by unfold LamX.CodeO at h; cases h
theorem Rel.dic (R : Rel Y F M H) {p : Addr} {ds : List ((Int ⊕ Str) × D)} (h : M p = some (.dic ds)) : ∃ vs, H p = some (.dK vs) ∧ RpKs K F vs ds := R.r.dic h
theorem Rel.setD (R : Rel Y F M H) {p : Addr} {ds0 ds : List ((Int ⊕ Str) × D)} {vs0 vs : List ((Int ⊕ Str) × V)} (h : M p = some (.dic ds0)) (e0 : H p = some (.dK vs0)) (r : RpKs K F vs ds) : Stp Y F M H F (mu M p (.dic ds)) (upd H p (.dK vs)) :=
  Stp.of R (R.r.put h e0 (fun _ z => nomatch z) (fun _ _ => code_dK) r)
theorem Rel.obj (R : Rel Y F M H) {p : Addr} {x : Str} {ds : List (Str × D)} (h : M p = some (.obj x ds)) : ∃ C dx fs, H p = some (.ins C dx fs) ∧ PySem.W.nsIn K mainGlobals x = some (some (.ref C)) ∧ RpFs K F fs ds := R.r.obj h
theorem Rel.setO (R : Rel Y F M H) {p C dx : Addr} {x : Str} {ds0 ds : List (Str × D)} {fs0 fs : List (Str × V)} (h : M p = some (.obj x ds0)) (e0 : H p = some (.ins C dx fs0)) (n : PySem.W.nsIn K mainGlobals x = some (some (.ref C))) (r : RpFs K F fs ds) :
    Stp Y F M H F (mu M p (.obj x ds)) (upd H p (.ins C dx fs)) := Stp.of R (R.r.setO h e0 n r)
theorem Rel.lst (R : Rel Y F M H) {p : Addr} {ds : List D} (h : M p = some (.lst ds)) : ∃ xs, H p = some (.lst xs) ∧ RpAll K F xs ds := R.r.lst h
end

/-! ### the slots -/
abbrev Rho := List (Option D)
def RelS (K : PySem.W.Frag) (F : Hp) (σ : St) (ρ : Rho) : Prop := σ.length = ρ.length ∧ ∀ (i : Nat) (d : D), ρ[i]? = some (some d) → ∃ v, σ[i]? = some (some v) ∧ Rp K F v d
section
variable {K : PySem.W.Frag} {F F' : Hp} {σ : St} {ρ : Rho}
theorem RelS.mono (h : RelS K F σ ρ) (e : Same F F') : RelS K F' σ ρ := ⟨h.1, fun i d q => let ⟨v, a, b⟩ := h.2 i d q; ⟨v, a, b.mono e⟩⟩
theorem RelS.set (h : RelS K F σ ρ) {v : V} {d : D} (r : Rp K F v d) (i : Nat) : RelS K F (σ.set i (some v)) (ρ.set i (some d)) := by
  refine ⟨by rw [List.length_set, List.length_set]; exact h.1, fun j e q => ?_⟩
  by_cases ij : i = j
  · subst ij
    have hl : i < ρ.length := by
      have := List.getElem?_eq_some_iff.mp q
      obtain ⟨a, _⟩ := this
      simpa using a
    rw [List.getElem?_set_self hl] at q
    cases q
    exact ⟨v, by rw [List.getElem?_set_self (by rw [h.1]; exact hl)], r⟩
  · rw [List.getElem?_set_ne ij] at q ⊢
    exact h.2 j e q
def dwipe (ρ : Rho) : List Nat → Rho
  | [] => ρ
  | v :: vs => (dwipe ρ vs).set v none
theorem RelS.wipe (h : RelS K F σ ρ) : ∀ vs : List Nat, RelS K F (L2.wipe σ vs) (dwipe ρ vs)
  | [] => h
  | v :: vs => by
    have ih := RelS.wipe h vs
    unfold L2.wipe dwipe
    refine ⟨by rw [List.length_set, List.length_set]; exact ih.1, fun j e q => ?_⟩
    by_cases ij : v = j
    · subst ij
      by_cases hl : v < (dwipe ρ vs).length
      · rw [List.getElem?_set_self hl] at q; cases q
      · rw [List.getElem?_eq_none (by simpa using hl)] at q; cases q
    · rw [List.getElem?_set_ne ij] at q ⊢
      exact ih.2 j e q
end

/-! ### the judgements -/
abbrev DK := D → Mp → Prop
abbrev DTE := Rho → Mp → DK → Prop
abbrev DTT := Rho → Mp → (Bool → Mp → Prop) → Prop
abbrev DTA := Rho → Mp → (List D → Mp → Prop) → Prop
structure DEnds where
  nx : Rho → Mp → Prop
  rt : DK
  bk : Rho → Mp → Prop := fun _ _ => False
  ct : Rho → Mp → Prop := fun _ _ => False
abbrev DTS := DEnds → Rho → Mp → Prop

def canE {K : PySem.W.Frag} (Y : KJ K) (t : DTE) : TE := fun σ H Q0 => ∃ F M ρ Q, RelS K F σ ρ ∧ Rel Y F M H ∧ t ρ M Q ∧
  ∀ v d F' M' H', Stp Y F M H F' M' H' → Rp K F' v d → Q d M' → Q0 v H'
def canT {K : PySem.W.Frag} (Y : KJ K) (t : DTT) : TT := fun σ H Q0 => ∃ F M ρ Q, RelS K F σ ρ ∧ Rel Y F M H ∧ t ρ M Q ∧
  ∀ b F' M' H', Stp Y F M H F' M' H' → Q b M' → Q0 b H'
def canA {K : PySem.W.Frag} (Y : KJ K) (t : DTA) : TA := fun σ H Q0 => ∃ F M ρ Q, RelS K F σ ρ ∧ Rel Y F M H ∧ t ρ M Q ∧
  ∀ vs ds F' M' H', Stp Y F M H F' M' H' → RpAll K F' vs ds → Q ds M' → Q0 vs H'
structure EndsOk {K : PySem.W.Frag} (Y : KJ K) (F : Hp) (M : Mp) (H : Hp) (D : DEnds) (D0 : Ends) : Prop where
  nx : ∀ σ' ρ' F' M' H', Stp Y F M H F' M' H' → RelS K F' σ' ρ' → D.nx ρ' M' → D0.nx σ' H'
  rt : ∀ v d F' M' H', Stp Y F M H F' M' H' → Rp K F' v d → D.rt d M' → D0.rt v H'
  bk : ∀ σ' ρ' F' M' H', Stp Y F M H F' M' H' → RelS K F' σ' ρ' → D.bk ρ' M' → D0.bk σ' H'
  ct : ∀ σ' ρ' F' M' H', Stp Y F M H F' M' H' → RelS K F' σ' ρ' → D.ct ρ' M' → D0.ct σ' H'
theorem EndsOk.mono {K : PySem.W.Frag} {Y : KJ K} {F F1 : Hp} {M M1 : Mp} {H H1 : Hp} {D : DEnds} {D0 : Ends} (e : EndsOk Y F M H D D0) (s : Stp Y F M H F1 M1 H1) : EndsOk Y F1 M1 H1 D D0 :=
  ⟨fun a b c d f h => e.nx a b c d f (s.trans h), fun a b c d f h => e.rt a b c d f (s.trans h), fun a b c d f h => e.bk a b c d f (s.trans h), fun a b c d f h => e.ct a b c d f (s.trans h)⟩
def canS {K : PySem.W.Frag} (Y : KJ K) (t : DTS) : TS := fun D0 σ H => ∃ F M ρ D, RelS K F σ ρ ∧ Rel Y F M H ∧ t D ρ M ∧ EndsOk Y F M H D D0

abbrev DE (X : Cx) (Y : KJ X.K) (e : Expr) (t : DTE) : Prop := PE X e (canE Y t)
abbrev DT (X : Cx) (Y : KJ X.K) (e : Expr) (t : DTT) : Prop := PT X e (canT Y t)
abbrev DW (X : Cx) (Y : KJ X.K) (e : Expr) (t : DTT) : Prop := PW X e (canT Y t)
abbrev DA (X : Cx) (Y : KJ X.K) (es : List Expr) (t : DTA) : Prop := PA X es (canA Y t)
abbrev DS (X : Cx) (Y : KJ X.K) (s : Stmt) (t : DTS) : Prop := PS X s (canS Y t)
abbrev DSs (X : Cx) (Y : KJ X.K) (ss : List Stmt) (t : DTS) : Prop := PSs X ss (canS Y t)

section
variable {X : Cx} {Y : KJ X.K}
theorem PE.weak {e : Expr} {t u : TE} (h : PE X e t) (w : ∀ σ H Q, u σ H Q → t σ H Q) : PE X e u := ⟨fun p s σ H Q I q => h.run p s σ H Q I (w σ H Q q)⟩
theorem PT.weak {e : Expr} {t u : TT} (h : PT X e t) (w : ∀ σ H Q, u σ H Q → t σ H Q) : PT X e u := ⟨fun p s σ H Q I q => h.run p s σ H Q I (w σ H Q q)⟩
theorem PW.weak {e : Expr} {t u : TT} (h : PW X e t) (w : ∀ σ H Q, u σ H Q → t σ H Q) : PW X e u := ⟨fun wh p s σ H Q I q => h.run wh p s σ H Q I (w σ H Q q)⟩
theorem PA.weak {es : List Expr} {t u : TA} (h : PA X es t) (w : ∀ σ H Q, u σ H Q → t σ H Q) : PA X es u := ⟨fun ps p s σ H Q I q => h.run ps p s σ H Q I (w σ H Q q)⟩
theorem PS.weak {e : Stmt} {t u : TS} (h : PS X e t) (w : ∀ D σ H, u D σ H → t D σ H) : PS X e u := ⟨fun p s σ H D I q => h.run p s σ H D I (w D σ H q)⟩
theorem PSs.weak {e : List Stmt} {t u : TS} (h : PSs X e t) (w : ∀ D σ H, u D σ H → t D σ H) : PSs X e u := ⟨fun p s σ H D I q => h.run p s σ H D I (w D σ H q)⟩
theorem PTs.weak {ifs : List Expr} {t u : TT} (h : PTs X ifs t) (w : ∀ σ H Q, u σ H Q → t σ H Q) : PTs X ifs u := ⟨fun p s σ H Q I q => h.run p s σ H Q I (w σ H Q q)⟩
end
/-- the introduction of a reading over data -/
theorem canE.mk {K : PySem.W.Frag} {Y : KJ K} {t : DTE} {σ : St} {H : Hp} {Q0 : VK} {F : Hp} {M : Mp} {ρ : Rho} {Q : DK} (s : RelS K F σ ρ) (r : Rel Y F M H) (h : t ρ M Q)
    (k : ∀ v d F' M' H', Stp Y F M H F' M' H' → Rp K F' v d → Q d M' → Q0 v H') : canE Y t σ H Q0 := ⟨F, M, ρ, Q, s, r, h, k⟩

/-! ### names, constants -/
def dSlot (i : Nat) : DTE := fun ρ M Q => ∃ d, ρ[i]? = some (some d) ∧ Q d M
def dC (d : D) : DTE := fun _ M Q => Q d M
section
variable {X : Cx} {Y : KJ X.K} {pos : Pos}
theorem de_v (i : Nat) {x : Str} (hN : X.N[i]? = some x := by rfl) (hv : Vis X.env.scope x := by first | exact Or.inl rfl | exact Or.inr (Or.inl rfl) | exact Or.inr (Or.inr rfl)) (hd : (x == ("__debug__" : Str)) = false := by decide)
    (hcd : (x == ("__classdict__" : Str)) = false := by decide) : DE X Y (.Name x pos) (dSlot i) := by
  refine PE.weak (pe_var hN hv hd hcd) ?_
  rintro σ H Q0 ⟨F, M, ρ, Q, rs, r, ⟨d, e, q⟩, k⟩
  obtain ⟨v, e1, rp⟩ := rs.2 i d e
  exact ⟨v, e1, k v d F M H (Stp.refl r) rp q⟩
theorem de_const {e : Expr} {v : V} {d : D} (h : PE X e (tC v)) (r : ∀ F, Rp X.K F v d) : DE X Y e (dC d) := by
  refine PE.weak h ?_
  rintro σ H Q0 ⟨F, M, ρ, Q, rs, rl, q, k⟩
  exact k v d F M H (Stp.refl rl) (r F) q
theorem de_int {i j} : DE X Y (.Constant (.int i) j pos) (dC (.int i)) := de_const pe_int fun _ => .int i
theorem de_bl {b j} : DE X Y (.Constant (.bool b) j pos) (dC (.bl b)) := de_const pe_bl fun _ => .bl b
theorem de_non {j} : DE X Y (.Constant .none j pos) (dC .non) := de_const pe_non fun _ => .non
theorem de_str {x j} : DE X Y (.Constant (.str x) j pos) (dC (.str x)) := de_const pe_str fun _ => .str x
/-- a name of the module whose value never changes -/
structure Glob (K : PySem.W.Frag) (mg : Str → Option Value) (x : Str) (d : D) : Prop where
  ex : ∃ v u, mg x = some u ∧ RelV v u ∧ ∀ F, Rp K F v d
theorem de_g {x : Str} {d : D} (G : Glob X.K X.mg x d) (hg : Gl X x := by rfl) (hd : (x == ("__debug__" : Str)) = false := by decide) : DE X Y (.Name x pos) (dC d) := by
  obtain ⟨v, u, m, rv, rp⟩ := G.ex
  exact de_const (pe_glob hg m rv hd) rp

/-! ### lists of arguments, displays -/
def dNil : DTA := fun _ M Q => Q [] M
def dCons (t : DTE) (u : DTA) : DTA := fun ρ M Q => t ρ M fun d M1 => u ρ M1 fun ds M2 => Q (d :: ds) M2
theorem da_nil : DA X Y [] dNil := by
  refine PA.weak pa_nil ?_
  rintro σ H Q0 ⟨F, M, ρ, Q, rs, r, q, k⟩
  exact k [] [] F M H (Stp.refl r) .nil q
theorem da_cons {e : Expr} {es : List Expr} {t : DTE} {u : DTA} (ha : DE X Y e t) (hr : DA X Y es u) (hs : starEach (e :: es) X.env = (false, eval e X.env) :: starEach es X.env := by rfl) : DA X Y (e :: es) (dCons t u) := by
  refine PA.weak (pa_cons ha hr hs) ?_
  rintro σ H Q0 ⟨F, M, ρ, Q, rs, r, q, k⟩
  refine ⟨F, M, ρ, _, rs, r, q, fun v d F1 M1 H1 s1 rp q1 => ?_⟩
  refine ⟨F1, M1, ρ, _, rs.mono s1.same, s1.rel, q1, fun vs ds F2 M2 H2 s2 rp2 q2 => ?_⟩
  exact k _ _ F2 M2 H2 (s1.trans s2) (.cons (rp.mono s2.same) rp2) q2
/-- a new list: held fast (fz), or to be changed -/
def newL (fz : Bool) (ds : List D) (M : Mp) (Q : DK) : Prop := if fz = true then Q (.lst ds) M else ∀ a, M a = none → Q (.ref a) (mu M a (.lst ds))
theorem newL_ok {K : PySem.W.Frag} {Y : KJ K} {F : Hp} {M : Mp} {H : Hp} {fz : Bool} {xs : List V} {ds : List D} {Q : DK} {Q0 : VK} (R : Rel Y F M H) (rp : RpAll K F xs ds) (h : newL fz ds M Q)
    (k : ∀ v d F' M' H', Stp Y F M H F' M' H' → Rp K F' v d → Q d M' → Q0 v H') (p : Addr) (hp : H p = none) : Q0 (.ref p) (upd H p (.lst xs)) := by
  cases fz with
  | true =>
    have s1 := R.newF hp (.lst xs)
    exact k _ (.lst ds) _ M _ s1 (.lst upd_same (rp.mono s1.same)) h
  | false =>
    exact k _ (.ref p) F _ _ (R.newM hp (m := .lst ds) rp) (.ref p) (h p (R.mnone hp))
def dTup (t : DTA) : DTE := fun ρ M Q => t ρ M fun ds M1 => ds.length ≤ sizeLine ∧ Q (.tup ds) M1
def dLst (fz : Bool) (t : DTA) : DTE := fun ρ M Q => t ρ M fun ds M1 => ds.length ≤ sizeLine ∧ newL fz ds M1 Q
theorem newT_ok {K : PySem.W.Frag} {Y : KJ K} {F : Hp} {M : Mp} {H : Hp} {xs : List V} {ds : List D} {Q : DK} {Q0 : VK} (R : Rel Y F M H) (rp : RpAll K F xs ds) (h : Q (.tup ds) M)
    (k : ∀ v d F' M' H', Stp Y F M H F' M' H' → Rp K F' v d → Q d M' → Q0 v H') (p : Addr) (hp : H p = none) : Q0 (.ref p) (upd H p (.tup xs)) := by
  have s1 := R.newF hp (.tup xs)
  exact k _ (.tup ds) _ M _ s1 (.tup (.inl (.inl upd_same)) (rp.mono s1.same)) h
theorem de_tup {es : List Expr} {x1} {t : DTA} (h : DA X Y es t) : DE X Y (.Tuple es x1 pos) (dTup t) := by
  refine PE.weak (pe_tup h) ?_
  rintro σ H Q0 ⟨F, M, ρ, Q, rs, r, q, k⟩
  refine ⟨F, M, ρ, _, rs, r, q, fun vs ds F1 M1 H1 s1 rp ⟨hl, q1⟩ => ⟨by rw [rp.length]; exact hl, fun p hp => ?_⟩⟩
  exact newT_ok s1.rel rp q1 (fun v d F' M' H' s => k v d F' M' H' (s1.trans s)) p hp
theorem de_lst (fz : Bool) {es : List Expr} {t : DTA} (h : DA X Y es t) : DE X Y (.List es pos) (dLst fz t) := by
  refine PE.weak (pe_lst h) ?_
  rintro σ H Q0 ⟨F, M, ρ, Q, rs, r, q, k⟩
  refine ⟨F, M, ρ, _, rs, r, q, fun vs ds F1 M1 H1 s1 rp ⟨hl, q1⟩ => ⟨by rw [rp.length]; exact hl, fun p hp => ?_⟩⟩
  exact newL_ok s1.rel rp q1 (fun v d F' M' H' s => k v d F' M' H' (s1.trans s)) p hp
/-- a list that was changed is held fast here -/
def dHold (t : DTE) : DTE := fun ρ M Q => t ρ M fun d M1 => ∃ a ds, d = .ref a ∧ M1 a = some (.lst ds) ∧ Q (.lst ds) (md M1 a)
theorem de_hold {e : Expr} {t : DTE} (h : DE X Y e t) : DE X Y e (dHold t) := by
  refine PE.weak h ?_
  rintro σ H Q0 ⟨F, M, ρ, Q, rs, r, q, k⟩
  refine ⟨F, M, ρ, _, rs, r, q, fun v d F1 M1 H1 s1 rp ⟨a, ds, e, hm, q1⟩ => ?_⟩
  subst e
  cases rp
  obtain ⟨F2, s2, rp2⟩ := s1.rel.hold hm
  exact k _ _ F2 _ H1 (s1.trans s2) rp2 q1
end
end DL

/-! DL2: tests, statements, targets, loops, comprehensions, defs and calls over data. -/
namespace DL
open PySem PySem.Spec L2
open PyProof.Rows hiding St

/-! ### tests -/
def dB (t : DTE) : DTT := fun ρ M Q => t ρ M fun d M1 => ∃ b, d = .bl b ∧ Q b M1
section
variable {X : Cx} {Y : KJ X.K} {pos : Pos}
theorem canT_of_B {K : PySem.W.Frag} {Y : KJ K} {t : DTE} {σ : St} {H : Hp} {Q : Bool → Hp → Prop} (h : canT Y (dB t) σ H Q) : tB (canE Y t) σ H Q := by
  obtain ⟨F, M, ρ, Q', rs, r, q, k⟩ := h
  refine ⟨F, M, ρ, _, rs, r, q, fun v d F1 M1 H1 s1 rp ⟨b, e, q1⟩ => ?_⟩
  subst e
  cases rp
  exact ⟨b, rfl, k b F1 M1 H1 s1 q1⟩
theorem dt_val {e : Expr} {t : DTE} (h : DE X Y e t) (he : ∀ whole, isTrue e X.env whole = (do let v ← whole; standAt e.pos; holding [v] (truthy v)) := by intro _; rfl) : DT X Y e (dB t) :=
  PT.weak (pt_val h he) fun _ _ _ q => canT_of_B q
def dNotT (t : DTT) : DTT := fun ρ M Q => t ρ M fun b M1 => Q (!b) M1
def dAndT (t u : DTT) : DTT := fun ρ M Q => t ρ M fun b M1 => if b = true then u ρ M1 Q else Q false M1
def dOrT (t u : DTT) : DTT := fun ρ M Q => t ρ M fun b M1 => if b = true then Q true M1 else u ρ M1 Q
theorem dt_not {a : Expr} {t : DTT} (h : DT X Y a t) : DT X Y (.UnaryOp .Not a pos) (dNotT t) := by
  refine PT.weak (pt_not h) ?_
  rintro σ H Q0 ⟨F, M, ρ, Q, rs, r, q, k⟩
  exact ⟨F, M, ρ, _, rs, r, q, fun b F1 M1 H1 s1 q1 => k _ F1 M1 H1 s1 q1⟩
theorem can_and {K : PySem.W.Frag} {Y : KJ K} {t u : DTT} {σ : St} {H : Hp} {Q : Bool → Hp → Prop} (h : canT Y (dAndT t u) σ H Q) : tAnd (canT Y t) (canT Y u) σ H Q := by
  obtain ⟨F, M, ρ, Q', rs, r, q, k⟩ := h
  refine ⟨F, M, ρ, _, rs, r, q, fun b F1 M1 H1 s1 q1 => ?_⟩
  cases b with
  | true => exact ⟨F1, M1, ρ, Q', rs.mono s1.same, s1.rel, q1, fun b F2 M2 H2 s2 => k b F2 M2 H2 (s1.trans s2)⟩
  | false => exact k _ F1 M1 H1 s1 q1
theorem can_or {K : PySem.W.Frag} {Y : KJ K} {t u : DTT} {σ : St} {H : Hp} {Q : Bool → Hp → Prop} (h : canT Y (dOrT t u) σ H Q) : tOr (canT Y t) (canT Y u) σ H Q := by
  obtain ⟨F, M, ρ, Q', rs, r, q, k⟩ := h
  refine ⟨F, M, ρ, _, rs, r, q, fun b F1 M1 H1 s1 q1 => ?_⟩
  cases b with
  | false => exact ⟨F1, M1, ρ, Q', rs.mono s1.same, s1.rel, q1, fun b F2 M2 H2 s2 => k b F2 M2 H2 (s1.trans s2)⟩
  | true => exact k _ F1 M1 H1 s1 q1
theorem dw_and1 {a : Expr} {t : DTT} (h : DT X Y a t) : DW X Y (.BoolOp .And [a] pos) t := pw_and1 h
theorem dw_or1 {a : Expr} {t : DTT} (h : DT X Y a t) : DW X Y (.BoolOp .Or [a] pos) t := pw_or1 h
theorem dw_and {a b : Expr} {rest : List Expr} {t u : DTT} (h : DT X Y a t) (h2 : DW X Y (.BoolOp .And (b :: rest) pos) u) : DW X Y (.BoolOp .And (a :: b :: rest) pos) (dAndT t u) :=
  PW.weak (pw_and h h2) fun _ _ _ q => can_and q
theorem dw_or {a b : Expr} {rest : List Expr} {t u : DTT} (h : DT X Y a t) (h2 : DW X Y (.BoolOp .Or (b :: rest) pos) u) : DW X Y (.BoolOp .Or (a :: b :: rest) pos) (dOrT t u) :=
  PW.weak (pw_or h h2) fun _ _ _ q => can_or q
theorem dt_w {e : Expr} {t : DTT} (h : DW X Y e t) : DT X Y e t := h.pt

/-! ### and, or, not as values; x if t else y -/
def dAndV (t u : DTE) : DTE := fun ρ M Q => t ρ M fun d M1 => ∃ b, d = .bl b ∧ if b = true then u ρ M1 Q else Q (.bl false) M1
def dOrV (t u : DTE) : DTE := fun ρ M Q => t ρ M fun d M1 => ∃ b, d = .bl b ∧ if b = true then Q (.bl true) M1 else u ρ M1 Q
def dNotV (t : DTE) : DTE := fun ρ M Q => t ρ M fun d M1 => ∃ b, d = .bl b ∧ Q (.bl (!b)) M1
def dIf (c : DTT) (t u : DTE) : DTE := fun ρ M Q => c ρ M fun b M1 => if b = true then t ρ M1 Q else u ρ M1 Q
theorem de_one {op} {a : Expr} {t : DTE} (h : DE X Y a t) : DE X Y (.BoolOp op [a] pos) t := pe_one h
theorem de_and {a b : Expr} {rest : List Expr} {t u : DTE} (h : DE X Y a t) (h2 : DE X Y (.BoolOp .And (b :: rest) pos) u) : DE X Y (.BoolOp .And (a :: b :: rest) pos) (dAndV t u) := by
  refine PE.weak (pe_and h h2) ?_
  rintro σ H Q0 ⟨F, M, ρ, Q, rs, r, q, k⟩
  refine ⟨F, M, ρ, _, rs, r, q, fun v d F1 M1 H1 s1 rp ⟨b, e, q1⟩ => ?_⟩
  subst e
  cases rp
  refine ⟨b, rfl, ?_⟩
  cases b with
  | true => exact ⟨F1, M1, ρ, Q, rs.mono s1.same, s1.rel, q1, fun v d F2 M2 H2 s2 => k v d F2 M2 H2 (s1.trans s2)⟩
  | false => exact k _ _ F1 M1 H1 s1 (.bl false) q1
theorem de_or {a b : Expr} {rest : List Expr} {t u : DTE} (h : DE X Y a t) (h2 : DE X Y (.BoolOp .Or (b :: rest) pos) u) : DE X Y (.BoolOp .Or (a :: b :: rest) pos) (dOrV t u) := by
  refine PE.weak (pe_or h h2) ?_
  rintro σ H Q0 ⟨F, M, ρ, Q, rs, r, q, k⟩
  refine ⟨F, M, ρ, _, rs, r, q, fun v d F1 M1 H1 s1 rp ⟨b, e, q1⟩ => ?_⟩
  subst e
  cases rp
  refine ⟨b, rfl, ?_⟩
  cases b with
  | false => exact ⟨F1, M1, ρ, Q, rs.mono s1.same, s1.rel, q1, fun v d F2 M2 H2 s2 => k v d F2 M2 H2 (s1.trans s2)⟩
  | true => exact k _ _ F1 M1 H1 s1 (.bl true) q1
theorem de_not {a : Expr} {t : DTE} (h : DE X Y a t) : DE X Y (.UnaryOp .Not a pos) (dNotV t) := by
  refine PE.weak (pe_not h) ?_
  rintro σ H Q0 ⟨F, M, ρ, Q, rs, r, q, k⟩
  refine ⟨F, M, ρ, _, rs, r, q, fun v d F1 M1 H1 s1 rp ⟨b, e, q1⟩ => ?_⟩
  subst e
  cases rp
  exact ⟨b, rfl, k _ _ F1 M1 H1 s1 (.bl _) q1⟩
theorem de_if {c a b : Expr} {tc : DTT} {t u : DTE} (hc : DT X Y c tc) (ha : DE X Y a t) (hb : DE X Y b u) : DE X Y (.IfExp c a b pos) (dIf tc t u) := by
  refine PE.weak (pe_ifExp hc ha hb) ?_
  rintro σ H Q0 ⟨F, M, ρ, Q, rs, r, q, k⟩
  refine ⟨F, M, ρ, _, rs, r, q, fun b F1 M1 H1 s1 q1 => ?_⟩
  cases b with
  | true => exact ⟨F1, M1, ρ, Q, rs.mono s1.same, s1.rel, q1, fun v d F2 M2 H2 s2 => k v d F2 M2 H2 (s1.trans s2)⟩
  | false => exact ⟨F1, M1, ρ, Q, rs.mono s1.same, s1.rel, q1, fun v d F2 M2 H2 s2 => k v d F2 M2 H2 (s1.trans s2)⟩
end

/-! ### blocks and small statements -/
def dNext : DTS := fun D ρ M => D.nx ρ M
def dSeq (t u : DTS) : DTS := fun D ρ M => t { D with nx := u D } ρ M
def dBreak : DTS := fun D ρ M => D.bk ρ M
def dCont : DTS := fun D ρ M => D.ct ρ M
def dDrop (t : DTE) : DTS := fun D ρ M => t ρ M fun _ M1 => D.nx ρ M1
def dRet (t : DTE) : DTS := fun D ρ M => t ρ M D.rt
def dRetN : DTS := fun D _ M => D.rt .non M
def dIfS (c : DTT) (t u : DTS) : DTS := fun D ρ M => c ρ M fun b M1 => if b = true then t D ρ M1 else u D ρ M1
section
variable {X : Cx} {Y : KJ X.K} {pos : Pos}
theorem dss_nil : DSs X Y [] dNext := by
  refine PSs.weak pss_nil ?_
  rintro D0 σ H ⟨F, M, ρ, D, rs, r, q, k⟩
  exact k.nx σ ρ F M H (Stp.refl r) rs q
theorem dss_cons {st : Stmt} {rest : List Stmt} {t u : DTS} (h1 : DS X Y st t) (h2 : DSs X Y rest u) : DSs X Y (st :: rest) (dSeq t u) := by
  refine PSs.weak (pss_cons h1 h2) ?_
  rintro D0 σ H ⟨F, M, ρ, D, rs, r, q, k⟩
  refine ⟨F, M, ρ, _, rs, r, q, ⟨fun σ' ρ' F' M' H' s rs' q' => ?_, k.rt, k.bk, k.ct⟩⟩
  exact ⟨F', M', ρ', D, rs', s.rel, q', k.mono s⟩
theorem dss_one {st : Stmt} {t : DTS} (h1 : DS X Y st t) : DSs X Y [st] t := pss_one h1
theorem ds_pass : DS X Y (.Pass pos) dNext := by
  refine PS.weak ps_pass ?_
  rintro D0 σ H ⟨F, M, ρ, D, rs, r, q, k⟩
  exact k.nx σ ρ F M H (Stp.refl r) rs q
theorem ds_break : DS X Y (.Break pos) dBreak := by
  refine PS.weak ps_break ?_
  rintro D0 σ H ⟨F, M, ρ, D, rs, r, q, k⟩
  exact k.bk σ ρ F M H (Stp.refl r) rs q
theorem ds_continue : DS X Y (.Continue pos) dCont := by
  refine PS.weak ps_continue ?_
  rintro D0 σ H ⟨F, M, ρ, D, rs, r, q, k⟩
  exact k.ct σ ρ F M H (Stp.refl r) rs q
theorem ds_expr {e : Expr} {t : DTE} (he : DE X Y e t) (hs : swapsWith e none pos.line X.env = pure false := by rfl) : DS X Y (.Expr e pos) (dDrop t) := by
  refine PS.weak (ps_expr he hs) ?_
  rintro D0 σ H ⟨F, M, ρ, D, rs, r, q, k⟩
  exact ⟨F, M, ρ, _, rs, r, q, fun v d F1 M1 H1 s1 rp q1 => k.nx σ ρ F1 M1 H1 s1 (rs.mono s1.same) q1⟩
theorem ds_ret {e : Expr} {t : DTE} (he : DE X Y e t) : DS X Y (.Return (some e) pos) (dRet t) := by
  refine PS.weak (ps_ret he) ?_
  rintro D0 σ H ⟨F, M, ρ, D, rs, r, q, k⟩
  exact ⟨F, M, ρ, _, rs, r, q, fun v d F1 M1 H1 s1 rp q1 => k.rt v d F1 M1 H1 s1 rp q1⟩
theorem ds_retN : DS X Y (.Return none pos) dRetN := by
  refine PS.weak ps_retN ?_
  rintro D0 σ H ⟨F, M, ρ, D, rs, r, q, k⟩
  exact k.rt .non .non F M H (Stp.refl r) .non q
theorem ds_if {c : Expr} {a b : List Stmt} {tc : DTT} {t u : DTS} (hc : DT X Y c tc) (ha : DSs X Y a t) (hb : DSs X Y b u) : DS X Y (.If c a b pos) (dIfS tc t u) := by
  refine PS.weak (ps_if hc ha hb) ?_
  rintro D0 σ H ⟨F, M, ρ, D, rs, r, q, k⟩
  refine ⟨F, M, ρ, _, rs, r, q, fun b F1 M1 H1 s1 q1 => ?_⟩
  cases b with
  | true => exact ⟨F1, M1, ρ, D, rs.mono s1.same, s1.rel, q1, k.mono s1⟩
  | false => exact ⟨F1, M1, ρ, D, rs.mono s1.same, s1.rel, q1, k.mono s1⟩
end

/-! ### targets -/
abbrev DTG := D → Rho → Mp → (Rho → Mp → Prop) → Prop
abbrev DTGs := List D → Rho → Mp → (Rho → Mp → Prop) → Prop
/-- off the places ws the slots are as they were -/
def Off (ws : List Nat) (σ σ' : St) : Prop := σ'.length = σ.length ∧ ∀ j : Nat, j ∉ ws → σ'[j]? = σ[j]?
theorem Off.refl (ws : List Nat) (σ : St) : Off ws σ σ := ⟨rfl, fun _ _ => rfl⟩
theorem Off.trans {ws : List Nat} {σ σ1 σ2 : St} (a : Off ws σ σ1) (b : Off ws σ1 σ2) : Off ws σ σ2 := ⟨b.1.trans a.1, fun j h => (b.2 j h).trans (a.2 j h)⟩
theorem Off.more {ws ws' : List Nat} {σ σ' : St} (a : Off ws σ σ') (h : ∀ i ∈ ws, i ∈ ws') : Off ws' σ σ' := ⟨a.1, fun j q => a.2 j fun z => q (h j z)⟩
theorem Off.set (σ : St) (i : Nat) (v : Option V) : Off [i] σ (σ.set i v) := ⟨List.length_set, fun j h => List.getElem?_set_ne (fun e => h (by simp [e]))⟩
theorem wipe_get {σ : St} : ∀ {vs : List Nat} {j : Nat}, (L2.wipe σ vs)[j]? = if j ∈ vs ∧ j < σ.length then some none else σ[j]?
  | [], j => by simp [L2.wipe]
  | v :: vs, j => by
    unfold L2.wipe
    by_cases e : v = j
    · subst e
      by_cases h : v < σ.length
      · rw [List.getElem?_set_self (by rw [L2.wipe_length]; exact h)]; simp [h]
      · rw [List.getElem?_eq_none (by rw [List.length_set, L2.wipe_length]; omega)]; simp [h]
    · rw [List.getElem?_set_ne e, wipe_get (vs := vs)]
      have : (j ∈ v :: vs) ↔ j ∈ vs := by simp [List.mem_cons, Ne.symm e]
      simp only [this]
theorem Off.wipe {ws : List Nat} {σ σ' : St} (a : Off ws σ σ') : L2.wipe σ' ws = L2.wipe σ ws := by
  apply List.ext_getElem?
  intro j
  rw [wipe_get, wipe_get, a.1]
  by_cases h : j ∈ ws
  · by_cases hl : j < σ.length
    · simp [h, hl]
    · rw [if_neg (by simp [hl]), if_neg (by simp [hl]), List.getElem?_eq_none (by rw [a.1]; omega), List.getElem?_eq_none (by omega)]
  · rw [if_neg (by simp [h]), if_neg (by simp [h])]
    exact a.2 j h
theorem wipe_idem {σ : St} {ws : List Nat} : L2.wipe (L2.wipe σ ws) ws = L2.wipe σ ws := by
  apply List.ext_getElem?
  intro j
  rw [wipe_get, wipe_get, L2.wipe_length]
  by_cases h : j ∈ ws ∧ j < σ.length
  · rw [if_pos h, if_pos h]
  · rw [if_neg h, if_neg h]
def canG {K : PySem.W.Frag} (Y : KJ K) (g : DTG) (ws : List Nat) : TG := fun v σ H Q0 => ∃ F M ρ d Q, Rp K F v d ∧ RelS K F σ ρ ∧ Rel Y F M H ∧ g d ρ M Q ∧
  ∀ σ' ρ' F' M' H', Stp Y F M H F' M' H' → RelS K F' σ' ρ' → Off ws σ σ' → Q ρ' M' → Q0 σ' H'
def canGs {K : PySem.W.Frag} (Y : KJ K) (g : DTGs) (ws : List Nat) : TGs := fun vs σ H Q0 => ∃ F M ρ ds Q, RpAll K F vs ds ∧ RelS K F σ ρ ∧ Rel Y F M H ∧ g ds ρ M Q ∧
  ∀ σ' ρ' F' M' H', Stp Y F M H F' M' H' → RelS K F' σ' ρ' → Off ws σ σ' → Q ρ' M' → Q0 σ' H'
abbrev DG (X : Cx) (Y : KJ X.K) (e : Expr) (g : DTG) (ws : List Nat) : Prop := PG X e (canG Y g ws)
abbrev DGs (X : Cx) (Y : KJ X.K) (es : List Expr) (g : DTGs) (ws : List Nat) : Prop := PGs X es (canGs Y g ws)
section
variable {X : Cx} {Y : KJ X.K} {pos : Pos}
theorem PG.weak {e : Expr} {t u : TG} (h : PG X e t) (w : ∀ v σ H Q, u v σ H Q → t v σ H Q) : PG X e u := ⟨fun p s σ H v z Q I r q => h.run p s σ H v z Q I r (w v σ H Q q)⟩
theorem PGs.weak {es : List Expr} {t u : TGs} (h : PGs X es t) (w : ∀ v σ H Q, u v σ H Q → t v σ H Q) : PGs X es u := ⟨fun p s σ H v z Q I r q => h.run p s σ H v z Q I r (w v σ H Q q)⟩
def dgName (i : Nat) : DTG := fun d ρ M Q => Q (ρ.set i (some d)) M
theorem dg_name {i : Nat} {x : Str} (hN : X.N.Nodup) (hi : X.N[i]? = some x) (hx : Loc X.env.scope x) (hf : X.fn x = true ∨ X.env.scope.names.lookup x = some .local := by first | exact .inl rfl | exact .inr rfl | assumption) : DG X Y (.Name x pos) (dgName i) [i] := by
  refine PG.weak (pg_name hN hi hx hf) ?_
  rintro v σ H Q0 ⟨F, M, ρ, d, Q, rp, rs, r, q, k⟩
  exact k _ _ F M H (Stp.refl r) (rs.set rp i) (Off.set σ i _) q
def dgNil : DTGs := fun ds ρ M Q => ds = [] ∧ Q ρ M
def dgCons (t : DTG) (u : DTGs) : DTGs := fun ds ρ M Q => ∃ d r, ds = d :: r ∧ t d ρ M fun ρ1 M1 => u r ρ1 M1 Q
theorem dgs_nil : DGs X Y [] dgNil [] := by
  refine PGs.weak pgs_nil ?_
  rintro vs σ H Q0 ⟨F, M, ρ, ds, Q, rp, rs, r, ⟨e, q⟩, k⟩
  subst e
  cases rp
  exact ⟨rfl, k _ _ F M H (Stp.refl r) rs (Off.refl _ _) q⟩
theorem dgs_cons {e : Expr} {es : List Expr} {t : DTG} {u : DTGs} {w1 w2 : List Nat} (h1 : DG X Y e t w1) (h2 : DGs X Y es u w2)
    (hs : (assignEach (e :: es) X.env).map (·.2) = assign e X.env :: (assignEach es X.env).map (·.2) := by rfl) : DGs X Y (e :: es) (dgCons t u) (w1 ++ w2) := by
  refine PGs.weak (pgs_cons h1 h2 hs) ?_
  rintro vs σ H Q0 ⟨F, M, ρ, ds, Q, rp, rs, r, ⟨d, rr, e, q⟩, k⟩
  subst e
  cases rp with
  | cons rh rt =>
    refine ⟨_, _, rfl, F, M, ρ, d, _, rh, rs, r, q, fun σ1 ρ1 F1 M1 H1 s1 rs1 o1 q1 => ?_⟩
    exact ⟨F1, M1, ρ1, rr, Q, rt.mono s1.same, rs1, s1.rel, q1, fun σ2 ρ2 F2 M2 H2 s2 rs2 o2 => k σ2 ρ2 F2 M2 H2 (s1.trans s2) rs2 ((o1.more fun i h => List.mem_append_left _ h).trans (o2.more fun i h => List.mem_append_right _ h))⟩
def dgTup (n : Nat) (t : DTGs) : DTG := fun d ρ M Q => ∃ ds, d = .tup ds ∧ ds.length = n ∧ t ds ρ M Q
theorem dg_tup {es : List Expr} {k : Nat} {t : DTGs} {n : Nat} {ws : List Nat} (hc : X.calm = true) (h : DGs X Y es t ws)
    (hn : (assignEach es X.env).length = n := by rfl) (hst : (assignEach es X.env).findIdx? (·.1) = none := by rfl) : DG X Y (.Tuple es k pos) (dgTup n t) ws := by
  refine PG.weak (pg_tup hc h hn hst) ?_
  rintro v σ H Q0 ⟨F, M, ρ, d, Q, rp, rs, r, ⟨ds, e, hl, q⟩, k⟩
  subst e
  cases rp with
  | tup sq ra =>
    have sq' := Same.tseq r.sub sq
    exact ⟨_, _, rfl, sq', by rw [ra.length]; exact hl, F, M, ρ, ds, Q, ra, rs, r, q, k⟩
/-- o[i] = v -/
abbrev DTSet := D → D → D → Mp → (Mp → Prop) → Prop
def canSet {K : PySem.W.Frag} (Y : KJ K) (t : DTSet) : TSet := fun o i v H Q0 => ∃ F M od id vd Q, Rp K F o od ∧ Rp K F i id ∧ Rp K F v vd ∧ Rel Y F M H ∧ t od id vd M Q ∧
  ∀ F' M' H', Stp Y F M H F' M' H' → Q M' → Q0 H'
theorem PSet.weak {t u : TSet} (h : PSet X t) (w : ∀ o i v H Q, u o i v H Q → t o i v H Q) : PSet X u := fun p s σ H o i v ov iv z Q I r1 r2 r3 q => h p s σ H o i v ov iv z Q I r1 r2 r3 (w o i v H Q q)
def dgSub (to ti : DTE) (t : DTSet) : DTG := fun d ρ M Q => to ρ M fun o M1 => ti ρ M1 fun i M2 => t o i d M2 fun M3 => Q ρ M3
theorem dg_sub {o i : Expr} {to ti : DTE} {t : DTSet} (ho : DE X Y o to) (hi : DE X Y i ti) (hs : PSet X (canSet Y t))
    (ha : ∀ v, assign (.Subscript o i pos) X.env v = (do
      let ov ← holding [v] (eval o X.env)
      let iv ← holding [v, ov] (eval i X.env)
      standAt pos
      holding [v, ov, iv] (setItem ov iv v)
      release [v, ov, iv] []) := by intro _; rfl) : DG X Y (.Subscript o i pos) (dgSub to ti t) [] := by
  refine PG.weak (pg_sub ho hi hs ha) ?_
  rintro v σ H Q0 ⟨F, M, ρ, d, Q, rp, rs, r, q, k⟩
  refine ⟨F, M, ρ, _, rs, r, q, fun ov od F1 M1 H1 s1 rp1 q1 => ?_⟩
  refine ⟨F1, M1, ρ, _, rs.mono s1.same, s1.rel, q1, fun iv id F2 M2 H2 s2 rp2 q2 => ?_⟩
  have s12 := s1.trans s2
  exact ⟨F2, M2, od, id, d, _, rp1.mono s2.same, rp2, rp.mono s12.same, s2.rel, q2, fun F3 M3 H3 s3 q3 => k σ ρ F3 M3 H3 (s12.trans s3) (rs.mono (s12.trans s3).same) (Off.refl _ _) q3⟩
def dAsg (t : DTE) (g : DTG) : DTS := fun D ρ M => t ρ M fun d M1 => g d ρ M1 D.nx
theorem can_asg {K : PySem.W.Frag} {Y : KJ K} {t : DTE} {g : DTG} {ws : List Nat} {D0 : Ends} {σ : St} {H : Hp} (h : canS Y (dAsg t g) D0 σ H) : tAsg (canE Y t) (canG Y g ws) D0 σ H := by
  obtain ⟨F, M, ρ, D, rs, r, q, k⟩ := h
  refine ⟨F, M, ρ, _, rs, r, q, fun v d F1 M1 H1 s1 rp q1 => ?_⟩
  exact ⟨F1, M1, ρ, d, D.nx, rp, rs.mono s1.same, s1.rel, q1, fun σ2 ρ2 F2 M2 H2 s2 rs2 _ q2 => k.nx σ2 ρ2 F2 M2 H2 (s1.trans s2) rs2 q2⟩
theorem ds_asg {tg e : Expr} {t : DTE} {g : DTG} {ws : List Nat} (he : DE X Y e t) (hg : DG X Y tg g ws) (hs : swapsWithSole [tg] e pos.line X.env = pure false := by rfl) (hw : swappedStores [tg] e X.env = pure none := by rfl)
    (h1 : (assignEach [tg] X.env).map (·.2) = [assign tg X.env] := by rfl) : DS X Y (.Assign [tg] e pos) (dAsg t g) :=
  PS.weak (ps_asg he hg hs hw h1) fun _ _ _ q => can_asg q
theorem ds_set {i : Nat} {x : Str} {e : Expr} {t : DTE} {pos' : Pos} (hN : X.N.Nodup) (hi : X.N[i]? = some x) (hx : Loc X.env.scope x) (he : DE X Y e t) (hs : swapsWith e (some (.Name x pos')) pos.line X.env = pure false := by rfl) (hf : X.fn x = true ∨ X.env.scope.names.lookup x = some .local := by first | exact .inl rfl | exact .inr rfl | assumption) :
    DS X Y (.Assign [.Name x pos'] e pos) (dAsg t (dgName i)) := by
  refine PS.weak (ps_set hN hi hx he hs hf) ?_
  rintro D0 σ H ⟨F, M, ρ, D, rs, r, q, k⟩
  refine ⟨F, M, ρ, _, rs, r, q, fun v d F1 M1 H1 s1 rp q1 => ?_⟩
  exact k.nx _ _ F1 M1 H1 s1 ((rs.mono s1.same).set rp i) q1
def dPar (i j : Nat) (t : DTA) : DTS := fun D ρ M => t ρ M fun ds M1 => ∃ d e, ds = [d, e] ∧ D.nx ((ρ.set i (some d)).set j (some e)) M1
theorem ds_par {i j : Nat} {x y : Str} {a b : Expr} {t : DTA} {px py pt : Pos} {kt k2 pt2} (hc : X.calm = true) (hN : X.N.Nodup) (hi : X.N[i]? = some x) (hj : X.N[j]? = some y) (hij : i ≠ j)
    (hx : X.env.scope.names.lookup x = some .local) (hy : X.env.scope.names.lookup y = some .local) (ha : DA X Y [a, b] t)
    (hw : swappedStores [.Tuple [.Name x px, .Name y py] kt pt] (.Tuple [a, b] k2 pt2) X.env = pure (some [x, y]) := by rfl) : DS X Y (.Assign [.Tuple [.Name x px, .Name y py] kt pt] (.Tuple [a, b] k2 pt2) pos) (dPar i j t) := by
  refine PS.weak (ps_par hc hN hi hj hij hx hy ha hw) ?_
  rintro D0 σ H ⟨F, M, ρ, D, rs, r, q, k⟩
  refine ⟨F, M, ρ, _, rs, r, q, fun vs ds F1 M1 H1 s1 rp ⟨d, e, he, q1⟩ => ?_⟩
  subst he
  cases rp with
  | cons r1 rt =>
    cases rt with
    | cons r2 rt2 =>
      cases rt2
      exact ⟨_, _, rfl, k.nx _ _ F1 M1 H1 s1 (((rs.mono s1.same).set r1 i).set r2 j) q1⟩
end

/-! ### while -/
def dWhile (c : DTT) (tb : DTS) : DTS := fun D ρ M => ∃ W : Nat → Rho → Mp → Prop, (∃ m, W m ρ M) ∧ ∀ m ρ M, W m ρ M →
  c ρ M fun b M1 => if b = true then ∃ N : Rho → Mp → Prop, (∀ ρ' M', N ρ' M' → ∃ m', m' < m ∧ W m' ρ' M') ∧ tb { D with nx := N, ct := N, bk := D.nx } ρ M1 else D.nx ρ M1
section
variable {X : Cx} {Y : KJ X.K} {pos : Pos}
theorem ds_while {c : Expr} {body : List Stmt} {tc : DTT} {tb : DTS} (hp : PassesOwn (model X.prog X.w) X.A X.env X.xe) (hc : DT X Y c tc) (hb : DSs X Y body tb) : DS X Y (.While c body [] pos) (dWhile tc tb) := by
  refine PS.weak (ps_while hp hc hb) ?_
  rintro D0 σ H ⟨F, M, ρ, D, rs, r, ⟨W, ⟨m0, w0⟩, turn⟩, k⟩
  refine ⟨fun m σ' H' => ∃ F1 M1 ρ1, Stp Y F M H F1 M1 H' ∧ RelS X.K F1 σ' ρ1 ∧ W m ρ1 M1, ⟨m0, F, M, ρ, Stp.refl r, rs, w0⟩, ?_⟩
  rintro m σ1 H1 ⟨F1, M1, ρ1, s1, rs1, w1⟩
  refine ⟨F1, M1, ρ1, _, rs1, s1.rel, turn m ρ1 M1 w1, fun b F2 M2 H2 s2 q2 => ?_⟩
  have s12 := s1.trans s2
  cases b with
  | false => exact k.nx σ1 ρ1 F2 M2 H2 s12 (rs1.mono s2.same) q2
  | true =>
    obtain ⟨N, hN, q2⟩ := q2
    refine iteT ?_
    refine ⟨fun σ' H' => ∃ m', m' < m ∧ ∃ F1 M1 ρ1, Stp Y F M H F1 M1 H' ∧ RelS X.K F1 σ' ρ1 ∧ W m' ρ1 M1, fun σ' H' h => h, ?_⟩
    refine ⟨F2, M2, ρ1, _, rs1.mono s2.same, s2.rel, q2, ⟨fun σ' ρ' F' M' H' s rs' n => ?_, fun v d F' M' H' s => k.rt v d F' M' H' (s12.trans s), fun σ' ρ' F' M' H' s => k.nx σ' ρ' F' M' H' (s12.trans s), fun σ' ρ' F' M' H' s rs' n => ?_⟩⟩
    all_goals
      obtain ⟨m', hm, w'⟩ := hN ρ' M' n
      exact ⟨m', hm, F', M', ρ', s12.trans s, rs', w'⟩
end

/-! ### what is walked -/
structure JW {K : PySem.W.Frag} (Y : KJ K) (F : Hp) (J : It) (items : List D) (G : Mp → Prop) : Prop where
  run : ∀ F1 M1 H1, Same F F1 → Rel Y F1 M1 H1 → G M1 → J.stop items.length H1 ∧ ∀ (i : Nat) (d : D), items[i]? = some d → J.go i H1 ∧ ∀ x H2, J.yld i H1 x H2 → ∃ F2, Stp Y F1 M1 H1 F2 M1 H2 ∧ Rp K F2 x d
abbrev DTI := Rho → Mp → (List D → (Mp → Prop) → Mp → Prop) → Prop
def canI {K : PySem.W.Frag} (Y : KJ K) (wi : DTI) : TI := fun σ H R0 => ∃ F M ρ R, RelS K F σ ρ ∧ Rel Y F M H ∧ wi ρ M R ∧
  ∀ J items G F' M' H', Stp Y F M H F' M' H' → JW Y F' J items G → R items G M' → R0 J H'
abbrev DI (X : Cx) (Y : KJ X.K) (tg iter : Expr) (wi : DTI) : Prop := PI X tg iter (canI Y wi)
section
variable {X : Cx} {Y : KJ X.K} {pos : Pos}
theorem PI.weak {tg e : Expr} {t u : TI} (h : PI X tg e t) (w : ∀ σ H R, u σ H R → t σ H R) : PI X tg e u := ⟨fun p s σ H R I q => h.run p s σ H R I (w σ H R q)⟩
/-- a for over the items -/
def forW (g : DTG) (tb : DTS) (D : DEnds) (G : Mp → Prop) : List DL.D → Rho → Mp → Prop
  | [], ρ, M => G M ∧ D.nx ρ M
  | x :: xs, ρ, M => G M ∧ g x ρ M fun ρ2 M2 => tb { D with nx := forW g tb D G xs, ct := forW g tb D G xs, bk := D.nx } ρ2 M2
def dFor (wi : DTI) (g : DTG) (tb : DTS) : DTS := fun D ρ M => wi ρ M fun items G M1 => forW g tb D G items ρ M1
theorem ds_for {tg iter : Expr} {body : List Stmt} {wi : DTI} {g : DTG} {ws : List Nat} {tb : DTS} (hp : PassesOwn (model X.prog X.w) X.A X.env X.xe) (hc : X.calm = true) (hi : DI X Y tg iter wi) (hg : DG X Y tg g ws) (hb : DSs X Y body tb)
    (hs : ∀ x, foldedSetIterable iter X.env x = pure x := by intro _; rfl) : DS X Y (.For tg iter body [] pos) (dFor wi g tb) := by
  refine PS.weak (ps_for hp hc hi hg hb hs) ?_
  rintro D0 σ H ⟨F, M, ρ, D, rs, r, q, k⟩
  refine ⟨F, M, ρ, _, rs, r, q, fun J items G F1 M1 H1 s1 jw q1 => ?_⟩
  refine ⟨fun i m σ' H' => m = items.length - i ∧ i ≤ items.length ∧ ∃ F2 M2 ρ2, Stp Y F1 M1 H1 F2 M2 H' ∧ RelS X.K F2 σ' ρ2 ∧ forW g tb D G (items.drop i) ρ2 M2,
    ⟨items.length, by simp, Nat.zero_le _, F1, M1, ρ, Stp.refl s1.rel, rs.mono s1.same, q1⟩, ?_⟩
  rintro i m σ' H' ⟨rfl, hi, F2, M2, ρ2, s2, rs2, q2⟩
  by_cases hlt : i < items.length
  · rw [List.drop_eq_getElem_cons hlt] at q2
    obtain ⟨g2, q2⟩ := q2
    have jj := (jw.run F2 M2 H' s2.same s2.rel g2).2 i items[i] (List.getElem?_eq_getElem hlt)
    refine .inr ⟨jj.1, fun σ3 H3 => ∃ m', m' < items.length - i ∧ (m' = items.length - (i + 1) ∧ i + 1 ≤ items.length ∧ ∃ F2 M2 ρ2, Stp Y F1 M1 H1 F2 M2 H3 ∧ RelS X.K F2 σ3 ρ2 ∧ forW g tb D G (items.drop (i + 1)) ρ2 M2), fun σ3 H3 h => h, fun x H3 y => ?_⟩
    obtain ⟨F3, s3, rp⟩ := jj.2 x H3 y
    have s23 := s2.trans s3
    refine ⟨F3, M2, ρ2, items[i], _, rp, rs2.mono s3.same, s3.rel, q2, fun σ4 ρ4 F4 M4 H4 s4 rs4 _ q4 => ?_⟩
    have s24 := s23.trans s4
    refine ⟨F4, M4, ρ4, _, rs4, s4.rel, q4, ⟨fun σ5 ρ5 F5 M5 H5 s5 rs5 n => ?_, fun v d F' M' H' s => k.rt v d F' M' H' ((s1.trans s24).trans s), fun a b F' M' H' s => k.nx a b F' M' H' ((s1.trans s24).trans s), fun σ5 ρ5 F5 M5 H5 s5 rs5 n => ?_⟩⟩
    all_goals exact ⟨items.length - (i + 1), by omega, rfl, hlt, F5, M5, ρ5, s24.trans s5, rs5, n⟩
  · have e : i = items.length := by omega
    subst e
    rw [List.drop_length] at q2
    obtain ⟨g2, q2⟩ := q2
    exact .inl ⟨(jw.run F2 M2 H' s2.same s2.rel g2).1, k.nx σ' ρ2 F2 M2 H' (s1.trans s2) rs2 q2⟩

/-! ### list comprehensions -/
def dYes : DTT := fun _ M Q => Q true M
abbrev DTs (X : Cx) (Y : KJ X.K) (ifs : List Expr) (t : DTT) : Prop := PTs X ifs (canT Y t)
theorem dts_nil : DTs X Y [] dYes := by
  refine PTs.weak pts_nil ?_
  rintro σ H Q0 ⟨F, M, ρ, Q, rs, r, q, k⟩
  exact k true F M H (Stp.refl r) q
theorem dts_one {c : Expr} {t : DTT} (h : DT X Y c t) : DTs X Y [c] t := pts_one h
def lcW (g : DTG) (tt : DTT) (te : DTE) (G : Mp → Prop) (ρ : Rho) (k : List DL.D → Mp → Prop) : List DL.D → List DL.D → Mp → Prop
  | [], acc, M => G M ∧ k acc M
  | x :: xs, acc, M => G M ∧ g x ρ M fun ρ2 M2 => tt ρ2 M2 fun b M3 => if b = true then te ρ2 M3 fun d M4 => acc.length < sizeLine ∧ lcW g tt te G ρ k xs (acc ++ [d]) M4 else lcW g tt te G ρ k xs acc M3
def dLc (fz : Bool) (wi : DTI) (g : DTG) (tt : DTT) (te : DTE) (vs : List Nat) : DTE := fun ρ M Q => wi ρ M fun items G M1 => lcW g tt te G (dwipe ρ vs) (fun ds M2 => newL fz ds M2 Q) items [] M1
theorem can_lc {K : PySem.W.Frag} {Y : KJ K} {fz : Bool} {wi : DTI} {g : DTG} {ws : List Nat} {tt : DTT} {te : DTE} {vs : List Nat} {σ : St} {H : Hp} {Q0 : VK} (hv : ∀ i ∈ ws, i ∈ vs) (h : canE Y (dLc fz wi g tt te vs) σ H Q0) :
    tLc (canI Y wi) (canG Y g ws) (canT Y tt) (canE Y te) vs σ H Q0 := by
  obtain ⟨F, M, ρ, Q, rs, r, q, k⟩ := h
  refine ⟨F, M, ρ, _, rs, r, q, fun J items G F1 M1 H1 s1 jw q1 => ?_⟩
  intro D hD
  have fD : F1 D = none := s1.rel.fnone hD
  have mD : M1 D = none := s1.rel.mnone hD
  -- the new list stands beside what is told
  let Pv : Nat → Hp → Prop := fun i H' => i ≤ items.length ∧ ∃ F2 M2 acc xs, Stp Y F1 M1 H1 F2 M2 H' ∧ F2 D = none ∧ M2 D = none ∧ H' D = some (.lst xs) ∧ RpAll K F2 xs acc ∧ lcW g tt te G (dwipe ρ vs) (fun ds M2 => newL fz ds M2 Q) (items.drop i) acc M2
  have s0 : Stp Y F1 M1 H1 F1 M1 (upd H1 D (.lst [])) := by
    refine Stp.of s1.rel ⟨Same.refl F1, ⟨fun b u z => ?_, fun a m z => ?_, s1.rel.r.nt⟩, fun a o h f m _ => ?_, tabs_new hD _⟩
    · rw [upd_ne (ne_of_none (s1.rel.sub _ _ z) hD)]; exact s1.rel.sub _ _ z
    · obtain ⟨f, o, e, rr⟩ := s1.rel.mt a m z
      exact ⟨f, o, by rw [upd_ne (ne_of_none e hD)]; exact e, rr⟩
    · rw [upd_ne (ne_of_none h hD)]; exact ⟨h, .inl f, m⟩
  refine ⟨fun i m H' => m = items.length - i ∧ Pv i H', ⟨items.length, by simp, Nat.zero_le _, F1, M1, [], [], s0, fD, mD, upd_same, .nil, q1⟩, ?_⟩
  rintro i m H2 ⟨rfl, hi, F2, M2, acc, xs, s2, f2, m2, h2, ra, q2⟩
  by_cases hlt : i < items.length
  · rw [List.drop_eq_getElem_cons hlt] at q2
    obtain ⟨g2, q2⟩ := q2
    have jj := (jw.run F2 M2 H2 s2.same s2.rel g2).2 i items[i] (List.getElem?_eq_getElem hlt)
    refine .inr ⟨jj.1, fun H3 => ∃ m', m' < items.length - i ∧ (m' = items.length - (i + 1) ∧ Pv (i + 1) H3), fun H3 h => h, fun x H3 y => ?_⟩
    obtain ⟨F3, s3, rp⟩ := jj.2 x H3 y
    obtain ⟨h3, f3, m3⟩ := s3.frN h2 f2 m2 (fun _ z => nomatch z) (fun _ _ => code_lst)
    have s23 := s2.trans s3
    refine ⟨F3, M2, dwipe ρ vs, items[i], _, rp, ((rs.mono s1.same).mono s23.same).wipe vs, s3.rel, q2, fun σ4 ρ4 F4 M4 H4 s4 rs4 o4 q4 => ?_⟩
    obtain ⟨h4, f4, m4⟩ := s4.frN h3 f3 m3 (fun _ z => nomatch z) (fun _ _ => code_lst)
    have s24 := s23.trans s4
    refine ⟨(o4.more hv).wipe.trans wipe_idem, F4, M4, ρ4, _, rs4, s4.rel, q4, fun b F5 M5 H5 s5 q5 => ?_⟩
    obtain ⟨h5, f5, m5⟩ := s5.frN h4 f4 m4 (fun _ z => nomatch z) (fun _ _ => code_lst)
    have s25 := s24.trans s5
    cases b with
    | false =>
      refine iteF ?_
      exact ⟨items.length - (i + 1), by omega, rfl, hlt, F5, M5, acc, xs, s25, f5, m5, h5, (((ra.mono s3.same).mono s4.same).mono s5.same), q5⟩
    | true =>
      refine iteT ?_
      refine ⟨F5, M5, ρ4, _, rs4.mono s5.same, s5.rel, q5, fun v d F6 M6 H6 s6 rp6 ⟨hl, q6⟩ => ?_⟩
      obtain ⟨h6, f6, m6⟩ := s6.frN h5 f5 m5 (fun _ z => nomatch z) (fun _ _ => code_lst)
      have s26 := s25.trans s6
      have ra6 : RpAll K F6 (xs ++ [v]) (acc ++ [d]) := (((((ra.mono s3.same).mono s4.same).mono s5.same).mono s6.same)).append (.cons rp6 .nil)
      refine ⟨xs, h6, by rw [ra.length]; exact hl, items.length - (i + 1), by omega, rfl, hlt, F6, M6, acc ++ [d], xs ++ [v], ?_, f6, m6, upd_same, ra6, q6⟩
      refine Stp.of s1.rel ⟨s26.same, ⟨fun b u z => ?_, fun a m z => ?_, s6.rel.r.nt⟩, fun a o h f m n => ?_, fun t => tabs_lst h6 (s26.s.tab t)⟩
      · rw [upd_ne (ne_of_none z f6)]; exact s6.rel.sub _ _ z
      · obtain ⟨f, o, e, rr⟩ := s6.rel.mt a m z
        have ne : a ≠ D := fun e => by subst e; rw [m6] at z; cases z
        exact ⟨f, o, by rw [upd_ne ne]; exact e, rr⟩
      · obtain ⟨h', f', m'⟩ := s26.fr a o h f m n
        rw [upd_ne (ne_of_none h hD)]; exact ⟨h', f', m'⟩
  · have e : i = items.length := by omega
    subst e
    rw [List.drop_length] at q2
    obtain ⟨g2, q2⟩ := q2
    refine .inl ⟨(jw.run F2 M2 H2 s2.same s2.rel g2).1, ?_⟩
    have sn : Same F2 (upd F2 D (.lst xs)) := same_new f2
    cases fz with
    | true =>
      refine k (.ref D) (.lst acc) (upd F2 D (.lst xs)) M2 H2 (s1.trans (Stp.of s1.rel ⟨s2.same.trans sn, ⟨fun b u z => ?_, fun a m z => ?_, fun a ps z => ?_⟩, fun a o h f m n => ?_, s2.s.tab⟩)) (.lst upd_same (ra.mono sn)) q2
      · by_cases e : b = D
        · subst e; rw [upd_same] at z; cases z; exact h2
        · rw [upd_ne e] at z; exact s2.rel.sub _ _ z
      · obtain ⟨f, o, e, rr⟩ := s2.rel.mt a m z
        have ne : a ≠ D := fun e => by subst e; rw [m2] at z; cases z
        exact ⟨by rw [upd_ne ne]; exact f, o, e, rr.mono sn⟩
      · by_cases e : a = D
        · subst e; rw [upd_same] at z; cases z
        · rw [upd_ne e] at z; exact s2.rel.r.nt a ps z
      · obtain ⟨h', f', m'⟩ := s2.fr a o h f m n
        exact ⟨h', by rw [upd_ne (ne_of_none h hD)]; exact f', m'⟩
    | false =>
      refine k (.ref D) (.ref D) F2 (mu M2 D (.lst acc)) H2 (s1.trans (Stp.of s1.rel ⟨s2.same, ⟨s2.rel.sub, fun a m z => ?_, s2.rel.r.nt⟩, fun a o h f m n => ?_, s2.s.tab⟩)) (.ref D) (q2 D m2)
      · by_cases e : a = D
        · subst e; rw [mu_same] at z; cases z; exact ⟨f2, _, h2, ra⟩
        · rw [mu_ne e] at z; exact s2.rel.mt a m z
      · obtain ⟨h', f', m'⟩ := s2.fr a o h f m n
        exact ⟨h', f', by rw [mu_ne (ne_of_none h hD)]; exact m'⟩
section
variable {X : Cx} {Y : KJ X.K} {pos : Pos}
theorem de_lc (fz : Bool) {elt tg iter : Expr} {ifs : List Expr} {scope : Scope} {own : List (Str × Nat)} {wi : DTI} {g : DTG} {ws : List Nat} {tt : DTT} {te : DTE} (hc : X.calm = true) (hN : X.N.Nodup) (hi : DI X Y tg iter wi) (ok : BlkOk X.N X.env.scope scope own) (hv : ∀ i ∈ ws, i ∈ own.map (·.2))
    (hg : ∀ (s : Shared) (H : Hp) (C : Addr) (cl : List (Str × Addr)) (fp : List Addr), DG (X.blk s H scope (compEnvC scope cl C X.env) fp) Y tg g ws) (ht : ∀ (s : Shared) (H : Hp) (C : Addr) (cl : List (Str × Addr)) (fp : List Addr), DTs (X.blk s H scope (compEnvC scope cl C X.env) fp) Y ifs tt)
    (he : ∀ (s : Shared) (H : Hp) (C : Addr) (cl : List (Str × Addr)) (fp : List Addr), DE (X.blk s H scope (compEnvC scope cl C X.env) fp) Y elt te) (hs : ∀ x, foldedSetIterable iter X.env x = pure x := by intro _; rfl) :
    DE X Y (.ListComp elt [⟨tg, iter, ifs, 0⟩] scope pos) (dLc fz wi g tt te (own.map (·.2))) :=
  PE.weak (pe_lc hc hN hi ok hg ht he hs) fun _ _ _ q => can_lc hv q
theorem ds_setLc (fz : Bool) {i : Nat} {y : Str} {py : Pos} {elt tg iter : Expr} {ifs : List Expr} {scope : Scope} {own : List (Str × Nat)} {spos : Pos} {wi : DTI} {g : DTG} {ws : List Nat} {tt : DTT} {te : DTE} (hc : X.calm = true) (hN : X.N.Nodup) (hy : X.N[i]? = some y) (hyl : X.env.scope.names.lookup y = some .local)
    (hsw : swapsWith (.ListComp elt [⟨tg, iter, ifs, 0⟩] scope pos) (some (.Name y py)) spos.line X.env = pure true) (hi : DI X Y tg iter wi) (ok : BlkOk X.N X.env.scope scope own) (hv : ∀ i ∈ ws, i ∈ own.map (·.2))
    (hg : ∀ (s : Shared) (H : Hp) (C : Addr) (cl : List (Str × Addr)) (fp : List Addr), DG (X.blk s H scope (compEnvC scope cl C X.env) fp) Y tg g ws) (ht : ∀ (s : Shared) (H : Hp) (C : Addr) (cl : List (Str × Addr)) (fp : List Addr), DTs (X.blk s H scope (compEnvC scope cl C X.env) fp) Y ifs tt)
    (he : ∀ (s : Shared) (H : Hp) (C : Addr) (cl : List (Str × Addr)) (fp : List Addr), DE (X.blk s H scope (compEnvC scope cl C X.env) fp) Y elt te) (hs : ∀ x, foldedSetIterable iter X.env x = pure x := by intro _; rfl) :
    DS X Y (.Assign [.Name y py] (.ListComp elt [⟨tg, iter, ifs, 0⟩] scope pos) spos) (dAsg (dLc fz wi g tt te (own.map (·.2))) (dgName i)) := by
  refine PS.weak (ps_setLc (g := canG Y g ws) (tt := canT Y tt) (te := canE Y te) hc hN hy hyl hsw hi ok hg ht he hs) ?_
  rintro D0 σ H ⟨F, M, ρ, D, rs, r, q, k⟩
  refine can_lc hv ⟨F, M, ρ, _, rs, r, q, fun v d F1 M1 H1 s1 rp q1 => ?_⟩
  exact k.nx _ _ F1 M1 H1 s1 ((rs.mono s1.same).set rp i) q1
end

end
end DL

/-! DG: the promise of a def where no repr is under way around it (guards = []); its call, its proof by the body, the law's end. -/
namespace DL
open PySem PySem.Spec L2
open PyProof.Rows hiding St

/-- as FnOk, but asked only where no repr is under way -/
structure GnOk (P : Program) (w : World) (K : PySem.W.Frag) (mg : Str → Option Value) (base : Heap) (CX : CXT) (k : Nat) (f : Addr) (fd : FuncData) (ps : List Str) (sp : Sp) : Prop where
  many : ∀ {vs H Q E}, sp vs H Q E → vs.length = ps.length
  go : ∀ {A : Around} {outer : List Env} {s : Shared} {H : Hp} {args : Args} {us : List Value} {vs : List V} {Q : VK} {E : XK},
    Room k A → A.guards = some [] → Env0 P w K mg base A outer s H → BindsTo s fd args (ps.zip us) → Vals vs us → sp vs H Q E →
    codeAny (model P w) A (.call (.ref f) args) (CR CX outer P w H s Q E) s
theorem GnOk.up {P : Program} {w : World} {K : PySem.W.Frag} {mg : Str → Option Value} {base : Heap} {CX : CXT} {j k : Nat} {f : Addr} {fd : FuncData} {ps : List Str} {sp : Sp}
    (G : GnOk P w K mg base CX j f fd ps sp) (h : j ≤ k) : GnOk P w K mg base CX k f fd ps sp :=
  ⟨G.many, fun r => G.go (r.mono h)⟩
section
variable {X : Cx} {Y : KJ X.K} {CX : CXT} {k : Nat} {f : Addr} {fd : FuncData} {ps : List Str} {sp : Sp} {dvs : List V} {ds : List Value} {E : XK} {x : Str} {p pos : Pos} {e : Expr} {es : List Expr} {t : TA}
theorem run_gn {pins : List (Addr × Obj)} {σ : St} {H : Hp} {s : Shared} {Q : VK} {us : List Value} {vs : List V}
    (G : GnOk X.prog X.w X.K X.mg X.base CX k f fd ps sp) (room : Room k X.A) (gu : X.A.guards = some []) (bi : Binds X.K fd ps ds) (dv : Vals dvs ds) (out : Passes CX X E)
    (I : Inv X pins σ H s) (rv : Vals vs us) (q : sp (vs ++ dvs) H Q E) : wpAny (model X.prog X.w) X.A (call (.ref f) us) (EP X pins σ Q) X.xe s := by
  have all := rv.append dv
  have cnt : (us ++ ds).length = ps.length := all.length.symm.trans (G.many q)
  refine wpAny_call (codeAny_mono (G.go room gu I.env0 (bi s us I.kIn cnt) all q) fun res s' hq => ?_)
  match res, hq with
  | .error er, hq => exact out pins σ H s er s' I hq
  | .ok (.ret u), hq => exact I.after hq
  | .ok .next, hq => exact hq.elim
  | .ok .brk, hq => exact hq.elim
  | .ok .cont, hq => exact hq.elim
theorem pe_gcall (G : GnOk X.prog X.w X.K X.mg X.base CX k f fd ps sp) (room : Room k X.A) (gu : X.A.guards = some []) (hg : Gl X x) (m : X.mg x = some (.ref f)) (kp : PySem.W.keepIn X.K (.ref f) = true)
    (bi : Binds X.K fd ps ds) (dv : Vals dvs ds) (out : Passes CX X E) (ha : PA X (e :: es) t) (nd : (x == ("__debug__" : Str)) = false) (se : starEach (e :: es) X.env = (false, eval e X.env) :: starEach es X.env)
    (ns : (backTo pos (starEach es X.env)).any (·.1) = false) : PE X (.Call (.Name x p) (e :: es) [] pos) (tCall sp dvs E t) := by
  constructor
  intro pins s σ H Q I q
  refine wpAny_Call_Name_kw (ld_glob I hg m ?_ nd)
  refine PySem.W.callWith_K (h₀ := X.base) I.ok.mod.kin kp (thn (ha.run pos pins s σ H _ I q) ?_) se ns
  rintro us s1 ⟨vs, H1, I1, rv, q1⟩
  exact ⟨I1.kIn, run_gn G room gu bi dv out I1 rv q1⟩
theorem pe_gcall0 (G : GnOk X.prog X.w X.K X.mg X.base CX k f fd ps sp) (room : Room k X.A) (gu : X.A.guards = some []) (hg : Gl X x) (m : X.mg x = some (.ref f)) (kp : PySem.W.keepIn X.K (.ref f) = true)
    (bi : Binds X.K fd ps ds) (dv : Vals dvs ds) (out : Passes CX X E) (nd : (x == ("__debug__" : Str)) = false) : PE X (.Call (.Name x p) [] [] pos) (tCall sp dvs E tNil) := by
  constructor
  intro pins s σ H Q I q
  refine wpAny_Call_Name_kw (ld_glob I hg m ?_ nd)
  exact PySem.W.callWith_K0 I.kIn kp (run_gn (us := []) G room gu bi dv out I .nil q)
end

/-- a def by its body, no repr under way -/
theorem gfn_of {CX : CXT} {P : Program} {w : World} {K : PySem.W.Frag} {mg : Str → Option Value} {base : Heap} {k : Nat} {f : Addr} {nm qual : Str} {par : Arguments} {body : List Stmt} {scope : Scope} {dV kV doc pm cd ct oc : Value} {an od : Option Addr}
    {osl : Array (Option Value)} {N ps : List Str} {sp : Sp} (lk : K.lookup f = some ⟨oc, od, .func (PySem.W.fnOf nm qual par body scope dV kV doc pm an cd ct), osl⟩) (hcd : PySem.W.codeIn K cd qual = true) (S : FnScope N ps scope)
    (many : ∀ {vs H Q E}, sp vs H Q E → vs.length = ps.length)
    (run : ∀ (A : Around) (outer : List Env) (s : Shared) (H : Hp) (vs : List V) (Q : VK) (E : XK), Room k (A.deeper (envOfC qual scope s.heap.objs.size f cd)) → (A.deeper (envOfC qual scope s.heap.objs.size f cd)).guards = some [] → sp vs H Q E →
      ∃ t, PSs (cxOf CX P w K mg base N qual scope f cd A outer s H E) body t ∧ t { nx := fun _ H' => Q .non H', rt := Q } (L2.start N vs) H) :
    GnOk P w K mg base CX (k + 1) f (PySem.W.fnOf nm qual par body scope dV kV doc pm an cd ct) ps sp := by
  constructor
  · exact many
  intro A outer s H args us vs Q E room gu e0 hb rv hs
  have cnt := many hs
  have keep : ∀ b o, base.get? b = some o → s.heap.get? b = some o := fun b o z => (e0.bs b o z).1
  have KX : K.In s.heap := e0.mod.kin.keeps keep
  have par : ∀ y ∈ ps.zip us, scope.names.lookup y.1 = some .local ∨ (scope.names.lookup y.1 = some .cell ∧ ((cellsFrom (s.heap.objs.size + 1) scope.names []).lookup y.1).isSome = true) := by
    rintro ⟨n, v⟩ hy
    cases S.par n (List.of_mem_zip hy).1 with
    | inl z => exact .inl z
    | inr z => exact .inr ⟨z, PySem.W.cellsFrom_some _ _ _ (.inl z)⟩
  refine codeAny_call_function room.depth (KX _ _ lk) rfl S.co S.gen rfl (PySem.W.codeRec_of KX hcd) (hb _ _ _ _ ?_)
  refine wpAny_newFunctionEnv_cells S.kind par ?_
  rintro env rfl s1 x
  refine ⟨(e0.mod.nolimit.keeps keep).keeps x.toInCall.keep, codeAny_func ?_⟩
  obtain ⟨t, ht, hq⟩ := run A outer s H vs Q E (room.deeper _) gu hs
  have I : Inv (cxOf CX P w K mg base N qual scope f cd A outer s H E) [] (L2.start N vs) H s1 := inv_start S room.hd e0 cnt rv x
  refine wpAny_mono (ht.run [] s1 (L2.start N vs) H _ I hq) ?_ fun _ _ z => z
  intro fl s' z
  match fl, z with
  | .ret u, ⟨v, σ', H', J, r, q⟩ => exact ⟨v, H', J.os, J.bare, J.base, J.hok, r, q⟩
  | .next, ⟨σ', H', J, q⟩ => exact ⟨V.non, H', J.os, J.bare, J.base, J.hok, rfl, q⟩
  | .brk, ⟨_, _, _, q⟩ => exact (show False from q).elim
  | .cont, ⟨_, _, _, q⟩ => exact (show False from q).elim

/-- the law's call over the heap behind the top -/
theorem glaw_call {CXa : CXT} {P : Program} {w : World} {K : PySem.W.Frag} {mg mb : Str → Option Value} {k : Nat} {fa a : Addr} {fd : FuncData} {x : Str} {sp : Sp} {s0 : Shared} {vs : List Value} {ns : List Int}
    (KX : K.In s0.heap) (hns : s0.heap.Ns mainGlobals mg) (hb : s0.heap.Ns builtinsNs mb) (hbb : ∀ x : Str, x ≠ "__name__" → mb x = bootBuiltins x) (hlim : s0.heap.NoLimit) (hg : s0.gens = #[])
    (ha : s0.heap.get? a = some { cls := .type "list", data := .seq vs.toArray }) (hi : IntsAre vs ns) (hl : ns.length ≤ sizeLine) (room : Room k callerA)
    (G : ∀ base : Heap, K.In base → base.Ns mainGlobals mg → GnOk P w K mg base CXa k fa fd [x] sp) (nothing : ∀ outer H s e s', ¬ CXa outer H s (fun _ _ _ => False) e s') (bind1 : ∀ (s : Shared) (u : Value), BindsTo s fd ⟨[u], []⟩ [(x, u)])
    (due : ∀ H : Hp, SqL K H a (ns.map V.int) → sp [.ref a] H (fun v _ => v = .bl true) fun _ _ _ => False) :
    codeAny (model P w) callerA (.call (.ref fa) ⟨[.ref a], []⟩) (fun r s' => r = .ok (.ret (.bool true)) ∧ OldK s0.heap s'.heap ∧ s'.os = s0.os ∧ AllBare s'.gens) s0 := by
  have rv := vals_ints hi
  have many := hi.length
  have main : ∀ H : Hp, (∀ b, H b = none ∨ ∃ o xs, H b = some (.frz o (.lst xs))) → SqL K H a (ns.map V.int) → HOk P w H s0.heap → (∀ b, H b ≠ none → b = a) → (H a ≠ none → K.lookup a = none) →
      codeAny (model P w) callerA (.call (.ref fa) ⟨[.ref a], []⟩) (fun r s' => r = .ok (.ret (.bool true)) ∧ OldK s0.heap s'.heap ∧ s'.os = s0.os ∧ AllBare s'.gens) s0 := by
    intro H only hS ok hA hK
    have isA : ∀ {b : Addr} {z : HO}, H b = some z → b = a := fun {b z} q => hA b (by rw [q]; exact fun y => by cases y)
    have plain : ∀ {b : Addr} {o : Obj} {es : Array DictEntry} {ep : Nat}, s0.heap.get? b = some o → o.data = .dict es ep → H b = none := by
      intro b o es ep e d
      cases q : H b with
      | none => rfl
      | some u =>
        obtain rfl := isA q
        rw [ha] at e
        cases e
        exact nomatch (show Data.seq vs.toArray _ = Data.dict es ep from d)
    have ns' : ∀ {b : Addr} {m : Str → Option Value}, s0.heap.Ns b m → (hidT s0.heap H).Ns b m := by
      rintro b m ⟨o, es, ep, e, d, r⟩
      exact ⟨o, es, ep, hidT_get e (plain e d), d, r⟩
    have Kb : K.In (hidT s0.heap H) := by
      intro b o e
      refine hidT_get (KX b o e) ?_
      cases q : H b with
      | none => rfl
      | some u =>
        obtain rfl := isA q
        rw [hK (by rw [q]; exact fun y => by cases y)] at e
        cases e
    have e0 : Env0 P w K mg (hidT s0.heap H) callerA [] s0 H := by
      refine ⟨rfl, ⟨Kb, ns' hns, ⟨mb, ns' hb, hbb⟩, ?_⟩, fun b o e => of_hidT e, Nat.le_of_eq (hidT_size _ _), trivial, ?_, ok, .of_eq hg⟩
      · obtain ⟨mc, h1, h2⟩ := hlim
        exact ⟨mc, ns' h1, h2⟩
      · intro b hb
        exact absurd (show b ∈ ([] : List Addr) from hb) (by simp)
    refine codeAny_mono ((G _ Kb (ns' hns)).go (args := ⟨[.ref a], []⟩) (us := [.ref a]) (vs := [V.ref a]) room rfl e0 (bind1 s0 (.ref a)) (.cons rfl .nil) (due H hS)) ?_
    intro r s' z
    match r, z with
    | .error _, z => exact absurd z (nothing _ _ _ _ _)
    | .ok .next, z => exact z.elim
    | .ok .brk, z => exact z.elim
    | .ok .cont, z => exact z.elim
    | .ok (.ret u), ⟨v, H', os, bare, un, ok', r', q⟩ =>
      obtain rfl : v = .bl true := q
      obtain rfl : u = Value.bool true := r'
      refine ⟨rfl, OldK.of_keep ?_, os, bare⟩
      intro b o e
      cases q : H b with
      | none => exact un.keep b o e q (fun z => absurd (show b ∈ ([] : List Addr) from z) (by simp)) (by simp)
      | some u =>
        rcases only b with z | ⟨ob, xs, z⟩
        · rw [q] at z
          cases z
        · have e1 := (ok b _ z).1
          have e2 := (ok' b _ (un.frzs b ob _ z)).1
          rw [e] at e1
          cases e1
          exact e2
  cases hk : K.lookup a with
  | some o =>
    have e := KX a o hk
    rw [ha] at e
    cases e
    exact main (fun _ => none) (fun _ => .inl rfl) (.inr ⟨_, vs.toArray, _, hk, rfl, rfl, rfl, by rw [List.size_toArray, many]; exact hl, by simpa using rv⟩) (fun b u z => nomatch z) (fun b z => absurd rfl z) fun z => absurd rfl z
  | none =>
    have at1 : ∀ {b : Addr}, b = a → (if b = a then some (HO.frz { cls := .type "list", data := .seq vs.toArray } (.lst (ns.map V.int))) else none) = some (.frz { cls := .type "list", data := .seq vs.toArray } (.lst (ns.map V.int))) := fun h => if_pos h
    refine main (fun b => if b = a then some (.frz { cls := .type "list", data := .seq vs.toArray } (.lst (ns.map V.int))) else none) ?_ (.inl (.inr ⟨_, at1 rfl⟩)) ?_ ?_ fun _ => hk
    · intro b
      by_cases h : b = a
      · exact .inr ⟨_, _, at1 h⟩
      · exact .inl (if_neg h)
    · intro b u z
      by_cases h : b = a
      · have z' := (at1 h).symm.trans z
        cases z'
        subst h
        exact ⟨ha, by rw [List.length_map]; exact hl, vs, _, rv, ha⟩
      · have z' := (if_neg h).symm.trans z
        cases z'
    · intro b z
      by_cases h : b = a
      · exact h
      · exact absurd (if_neg h) z
theorem gwalk_of {l : PySem.W.OpenLaw} {n k : Nat} {q : Program} {loose : List Str} {XP : (Str → Option Value) → Heap → Prop} {YP : World → Heap → Prop} {d : DefRec} {K : Params → PySem.W.Frag} {sp : World → Sp} {x : Str}
    (most : l.most = some n) (le : n ≤ sizeLine) (dfl : d.params.defaults = []) (room : Room k callerA)
    (inY : ∀ (w : World) (h : Heap), YP w h → (K w.params).In h)
    (G : ∀ (w : World) (mg : Str → Option Value) (fa : Addr) (h : Heap), (K w.params).In h → h.Ns mainGlobals mg → mg d.name = some (.ref fa) →
      ∃ fd : FuncData, (∀ (s : Shared) (u : Value), BindsTo s fd ⟨[u], []⟩ [(x, u)]) ∧
        ∀ base : Heap, (K w.params).In base → base.Ns mainGlobals mg → GnOk l.prog w (K w.params) mg base (L2.CX l.prog w) k fa fd [x] (sp w))
    (due : ∀ (w : World) (H : Hp) (a : Addr) (ns : List Int), ns.length ≤ n → SqL (K w.params) H a (ns.map V.int) → sp w [.ref a] H (fun v _ => v = .bl true) fun _ _ _ => False) :
    PySem.W.WalkO q loose XP YP l.row.toRowW d [] (fun f vs => PySem.call f vs) := by
  refine Att.attach_call most dfl ?_
  intro w s0 s1 mg mb fa o pm cd doc a vs ns G0 Y ho hd hcd hmg hobj hints hlen hg
  have KX := inY w _ Y
  obtain ⟨fd, hb, hF⟩ := G w mg fa _ KX G0.T.g hmg
  exact glaw_call KX G0.T.g G0.T.b G0.T.builtins G0.T.nolimit hg hobj hints (Nat.le_trans hlen le) room hF (fun _ _ _ _ _ ⟨_, _, _, _, _, _, _, _, _, _, _, _, z⟩ => z) hb fun H hS => due w H a ns hlen hS
/-! ### defs and calls -/
/-- what is wished where the class under x is raised with a value -/
abbrev DXK := Str → DL.D → Mp → Prop
abbrev DSp := List DL.D → Mp → DK → DXK → Prop
/-- an exception over data: of the class that stands under x, its value v -/
structure ExR (K : PySem.W.Frag) (F : Hp) (x : Str) (v : DL.D) (cls : Value) (d : Option Addr) : Prop where
  ex : ∃ (C dx : Addr) (u : V), PySem.W.nsIn K mainGlobals x = some (some (.ref C)) ∧ cls = .ref C ∧ d = some dx ∧ F dx = some (.xd [("value", u)]) ∧ Rp K F u v
/-- a promise over data, as one over the heap -/
def lift (K : PySem.W.Frag) (T : TT8) (sp : DSp) : Sp := fun vs H Q0 E0 => ∃ ds F M Q E, RpAll K F vs ds ∧ RelR K F M H ∧ LamX.Tabs T H ∧ sp ds M Q E ∧
  (∀ v d F' M' H', StpR K T F M H F' M' H' → Rp K F' v d → Q d M' → Q0 v H') ∧
  ∀ x v cls d F' M' H', StpR K T F M H F' M' H' → ExR K F' x v cls d → E x v M' → E0 cls d H'
/-- a def that is to be called by its name x: its promise over data; es: the defaults of its last parameters -/
structure Cal (P : Program) (w : World) (K : PySem.W.Frag) (T : TT8) (mg : Str → Option Value) (base : Heap) (k : Nat) (x : Str) (es : List DL.D) (sp : DSp) : Prop where
  ex : ∃ (f : Addr) (fd : FuncData) (ps : List Str) (dvs : List V) (us : List Value), GnOk P w K mg base (L2.CX P w) k f fd ps (lift K T sp) ∧ mg x = some (.ref f) ∧ PySem.W.keepIn K (.ref f) = true ∧ Binds K fd ps us ∧ Vals dvs us ∧ ∀ F, RpAll K F dvs es
def dCallX (sp : DSp) (es : List DL.D) (t : DTA) (E : DXK) : DTE := fun ρ M Q => t ρ M fun ds M1 => sp (ds ++ es) M1 Q E
def dCall (sp : DSp) (es : List DL.D) (t : DTA) : DTE := dCallX sp es t fun _ _ _ => False
theorem Cal.mono {P : Program} {w : World} {K : PySem.W.Frag} {T : TT8} {mg : Str → Option Value} {base : Heap} {j k : Nat} {x : Str} {es : List DL.D} {sp : DSp} (C : Cal P w K T mg base j x es sp) (h : j ≤ k) : Cal P w K T mg base k x es sp := by
  obtain ⟨f, fd, ps, dvs, us, a, b⟩ := C.ex
  exact ⟨f, fd, ps, dvs, us, a.up h, b⟩
/-- a body in sight of its tables, from which E may be raised -/
structure XG (X : Cx) (Y : KJ X.K) (E : DXK) : Prop where
  tabs : ∀ F M H, Y.J F M H → LamX.Tabs Y.T H
  ex : ∃ W, Takes X W ∧ ∀ σ F M H x v cls d, Rel Y F M H → ExR X.K F x v cls d → E x v M → W cls d σ H
/-- a body in sight of its tables -/
structure XT {K : PySem.W.Frag} (Y : KJ K) : Prop where
  tabs : ∀ F M H, Y.J F M H → LamX.Tabs Y.T H
theorem XG.xt {X : Cx} {Y : KJ X.K} {E : DXK} (g : XG X Y E) : XT Y := ⟨g.tabs⟩
theorem no_takes {X : Cx} : Takes X (fun _ _ _ _ => False) := fun _ _ x => by
  obtain ⟨_, _, _, _, _, _, _, _, _, _, _, _, _, _, _, _, z⟩ := x
  exact z.elim
theorem XT.none {X : Cx} {Y : KJ X.K} (t : XT Y) : XG X Y fun _ _ _ => False := ⟨t.tabs, _, no_takes, fun _ _ _ _ _ _ _ _ _ _ z => z⟩
section
variable {X : Cx} {Y : KJ X.K} {pos p : Pos}
/-- the exceptions' wish, over the heap -/
def xw (Y : KJ X.K) (E : DXK) : XK := fun cls d H => ∃ F M x v, Rel Y F M H ∧ ExR X.K F x v cls d ∧ E x v M
theorem XG.out {E : DXK} (g : XG X Y E) : Passes (L2.CX X.prog X.w) X (xw Y E) := by
  obtain ⟨W, tk, h⟩ := g.ex
  exact passes_call tk fun cls d σ H ⟨F, M, x, v, r, e, z⟩ => h σ F M H x v cls d r e z
theorem can_call {sp : DSp} {es : List DL.D} {dvs : List V} {t : DTA} {σ : St} {H : Hp} {Q0 : VK} {E : DXK} (tb : XT Y) (rd : ∀ F, RpAll X.K F dvs es) (h : canE Y (dCallX sp es t E) σ H Q0) : tCall (lift X.K Y.T sp) dvs (xw Y E) (canA Y t) σ H Q0 := by
  obtain ⟨F, M, ρ, Q, rs, r, q, k⟩ := h
  refine ⟨F, M, ρ, _, rs, r, q, fun vs ds F1 M1 H1 s1 rp q1 => ?_⟩
  refine ⟨ds ++ es, F1, M1, Q, E, rp.append (rd F1), s1.rel.r, tb.tabs _ _ _ s1.rel.j, q1, fun v d F2 M2 H2 s2 => k v d F2 M2 H2 (s1.trans (Stp.of s1.rel s2)), fun x v cls d F2 M2 H2 s2 e z => ?_⟩
  exact ⟨F2, M2, x, v, (Stp.of s1.rel s2).rel, e, z⟩
theorem de_callX {k : Nat} {x : Str} {es : List DL.D} {sp : DSp} {e : Expr} {args : List Expr} {t : DTA} {E : DXK} (C : Cal X.prog X.w X.K Y.T X.mg X.base k x es sp) (hr : Room k X.A) (gu : X.A.guards = some []) (g : XG X Y E) (ha : DA X Y (e :: args) t) (hg : Gl X x := by rfl)
    (hd : (x == ("__debug__" : Str)) = false := by decide) (he : starEach (e :: args) X.env = (false, eval e X.env) :: starEach args X.env := by rfl) (hpl : (backTo pos (starEach args X.env)).any (·.1) = false := by rfl) :
    DE X Y (.Call (.Name x p) (e :: args) [] pos) (dCallX sp es t E) := by
  obtain ⟨f, fd, ps, dvs, us, G, m, kp, b, vd, rd⟩ := C.ex
  exact PE.weak (pe_gcall G hr gu hg m kp b vd g.out ha hd he hpl) fun _ _ _ q => can_call g.xt rd q
theorem de_call {k : Nat} {x : Str} {es : List DL.D} {sp : DSp} {e : Expr} {args : List Expr} {t : DTA} (C : Cal X.prog X.w X.K Y.T X.mg X.base k x es sp) (hr : Room k X.A) (gu : X.A.guards = some []) (g : XT Y) (ha : DA X Y (e :: args) t) (hg : Gl X x := by rfl)
    (hd : (x == ("__debug__" : Str)) = false := by decide) (he : starEach (e :: args) X.env = (false, eval e X.env) :: starEach args X.env := by rfl) (hpl : (backTo pos (starEach args X.env)).any (·.1) = false := by rfl) :
    DE X Y (.Call (.Name x p) (e :: args) [] pos) (dCall sp es t) := de_callX C hr gu g.none ha hg hd he hpl
theorem de_call0 {k : Nat} {x : Str} {es : List DL.D} {sp : DSp} (C : Cal X.prog X.w X.K Y.T X.mg X.base k x es sp) (hr : Room k X.A) (gu : X.A.guards = some []) (g : XT Y) (hg : Gl X x := by rfl) (hd : (x == ("__debug__" : Str)) = false := by decide) : DE X Y (.Call (.Name x p) [] [] pos) (dCall sp es dNil) := by
  obtain ⟨f, fd, ps, dvs, us, G, m, kp, b, vd, rd⟩ := C.ex
  refine PE.weak (pe_gcall0 G hr gu hg m kp b vd g.none.out hd) fun σ H Q0 q => ?_
  obtain ⟨F, M, ρ, Q, rs, r, q, k⟩ := q
  exact ⟨es, F, M, Q, _, rd F, r.r, g.tabs _ _ _ r.j, q, fun v d F2 M2 H2 s2 => k v d F2 M2 H2 (Stp.of r s2), fun _ _ _ _ _ _ _ _ _ z => z.elim⟩
end
def dstart (N : List Str) (ds : List DL.D) : Rho := ds.map some ++ List.replicate (N.length - ds.length) none
theorem relS_start {K : PySem.W.Frag} {F : Hp} {N : List Str} {vs : List V} {ds : List DL.D} (h : RpAll K F vs ds) : RelS K F (L2.start N vs) (dstart N ds) := by
  refine ⟨?_, fun i d q => ?_⟩
  · unfold L2.start dstart; rw [List.length_append, List.length_append, List.length_map, List.length_map, List.length_replicate, List.length_replicate, h.length]
  · unfold dstart at q
    unfold L2.start
    by_cases hl : i < ds.length
    · rw [List.getElem?_append_left (by rw [List.length_map]; exact hl), List.getElem?_map] at q
      rw [List.getElem?_append_left (by rw [List.length_map, h.length]; exact hl), List.getElem?_map]
      cases e : ds[i]? with
      | none => rw [e] at q; cases q
      | some d' =>
        rw [e] at q; cases q
        obtain ⟨v, e1, r⟩ := h.get e
        exact ⟨v, by rw [e1]; rfl, r⟩
    · rw [List.getElem?_append_right (by rw [List.length_map]; omega), List.getElem?_replicate] at q
      split at q <;> cases q
/-- a def of the text as it stands behind the top, with how its parameters are bound -/
structure Has (K : PySem.W.Frag) (mg : Str → Option Value) (x qual : Str) (st : Stmt) (ps : List Str) (es : List DL.D) : Prop where
  ex : ∃ (f : Addr) (oc : Value) (od : Option Addr) (dV kV doc pm : Value) (an : Option Addr) (cdv ct : Value) (osl : Array (Option Value)) (us : List Value) (dvs : List V),
    K.lookup f = some ⟨oc, od, .func (PySem.W.fnOf x qual (defArgs st) (defBody st) (defScope st) dV kV doc pm an cdv ct), osl⟩ ∧ PySem.W.codeIn K cdv qual = true ∧ PySem.W.keepIn K (.ref f) = true ∧ mg x = some (.ref f) ∧
      Binds K (PySem.W.fnOf x qual (defArgs st) (defBody st) (defScope st) dV kV doc pm an cdv ct) ps us ∧ Vals dvs us ∧ ∀ F, RpAll K F dvs es
/-- a state behind the entry of a def -/
def fromE (K : PySem.W.Frag) (T : TT8) (F0 : Hp) (M0 : Mp) (H0 : Hp) : KJ K where
  T := T
  J := fun F M H => StpR K T F0 M0 H0 F M H ∧ LamX.Tabs T H
  cl := fun ⟨a, t⟩ s => ⟨a.trans s, s.tab t⟩
/-- a body is by rules, from any state on, wherever its exceptions go -/
def DBody (P : Program) (w : World) (K : PySem.W.Frag) (T : TT8) (mg : Str → Option Value) (base : Heap) (k : Nat) (N : List Str) (qual : Str) (st : Stmt) (f : Addr) (t : DXK → DTS) : Prop :=
  ∀ (cdv : Value) (A : Around) (outer : List Env) (s : Shared) (H : Hp) (E : XK) (Y : KJ K) (E1 : DXK), Y.T = T → Room k (A.deeper (envOfC qual (defScope st) s.heap.objs.size f cdv)) → (A.deeper (envOfC qual (defScope st) s.heap.objs.size f cdv)).guards = some [] →
    XG (cxOf (L2.CX P w) P w K mg base N qual (defScope st) f cdv A outer s H E) Y E1 → DSs (cxOf (L2.CX P w) P w K mg base N qual (defScope st) f cdv A outer s H E) Y (defBody st) (t E1)
/-- THE RULE for a def over data: its body by rules, and its reading -/
theorem dgn {P : Program} {w : World} {K : PySem.W.Frag} {T : TT8} {mg : Str → Option Value} {base : Heap} {x qual : Str} {st : Stmt} {N ps : List Str} {k : Nat} {sp : DSp} {f : Addr} {oc : Value} {od : Option Addr} {dV kV doc pm : Value} {an : Option Addr} {cd ct : Value} {osl : Array (Option Value)}
    (lk : K.lookup f = some ⟨oc, od, .func (PySem.W.fnOf x qual (defArgs st) (defBody st) (defScope st) dV kV doc pm an cd ct), osl⟩) (hcd : PySem.W.codeIn K cd qual = true) (S : FnScope N ps (defScope st)) {t : DXK → DTS}
    (body : DBody P w K T mg base k N qual st f t)
    (read : ∀ ds M Q E, sp ds M Q E → ds.length = ps.length ∧ t E { nx := fun _ M' => Q .non M', rt := Q } (dstart N ds) M) :
    GnOk P w K mg base (L2.CX P w) (k + 1) f (PySem.W.fnOf x qual (defArgs st) (defBody st) (defScope st) dV kV doc pm an cd ct) ps (lift K T sp) := by
  refine gfn_of lk hcd S ?_ ?_
  · rintro vs H Q E0 ⟨ds, F, M, Q, E, rp, _, _, q, _⟩
    rw [rp.length]; exact (read ds M Q E q).1
  · rintro A outer s H vs Q0 E0 room gu ⟨ds, F, M, Q, E, rp, r, tb, q, kk, ke⟩
    have g : XG (cxOf (L2.CX P w) P w K mg base N qual (defScope st) f cd A outer s H E0) (fromE K T F M H) E := by
      refine ⟨fun F M H j => j.2, fun cls d _ H => E0 cls d H, takes_of rfl rfl rfl rfl, fun σ F' M' H' x v cls d R e z => ke x v cls d F' M' H' R.j.1 e z⟩
    have B := body cd A outer s H E0 (fromE K T F M H) E rfl room gu g
    have s0 : Rel (fromE K T F M H) F M H := ⟨r, StpR.refl r, tb⟩
    refine ⟨_, B, F, M, dstart N ds, _, relS_start rp, s0, (read ds M Q E q).2, ⟨fun _ _ F' M' H' s' _ q' => kk .non .non F' M' H' s'.s .non q', fun v d F' M' H' s' rp' q' => kk v d F' M' H' s'.s rp' q', fun _ _ _ _ _ _ _ z => z.elim, fun _ _ _ _ _ _ _ z => z.elim⟩⟩
end DL

/-! DL3: operators, comparisons, items, slices, built-ins and methods over data. -/
namespace DL
open PySem PySem.Spec L2
open PyProof.Rows hiding St

/-! ### two places -/
abbrev RD2 := DL.D → DL.D → Mp → DK → Prop
def can2 {K : PySem.W.Frag} (Y : KJ K) (r : RD2) : R2 := fun x y H Q0 => ∃ F M d e Q, Rp K F x d ∧ Rp K F y e ∧ Rel Y F M H ∧ r d e M Q ∧
  ∀ v z F' M' H', Stp Y F M H F' M' H' → Rp K F' v z → Q z M' → Q0 v H'
abbrev OpD (X : Cx) (Y : KJ X.K) (f : Value → Value → Sem Value) (r : RD2) : Prop := OpR X f (can2 Y r)
def dOp (r : RD2) (t u : DTE) : DTE := fun ρ M Q => t ρ M fun x M1 => u ρ M1 fun y M2 => r x y M2 Q
section
variable {X : Cx} {Y : KJ X.K} {pos : Pos} {a b c : Expr} {t u v : DTE}
theorem can_op {K : PySem.W.Frag} {Y : KJ K} {r : RD2} {σ : St} {H : Hp} {Q0 : VK} (h : canE Y (dOp r t u) σ H Q0) : tOp (can2 Y r) (canE Y t) (canE Y u) σ H Q0 := by
  obtain ⟨F, M, ρ, Q, rs, rl, q, k⟩ := h
  refine ⟨F, M, ρ, _, rs, rl, q, fun x d F1 M1 H1 s1 rp1 q1 => ?_⟩
  refine ⟨F1, M1, ρ, _, rs.mono s1.same, s1.rel, q1, fun y e F2 M2 H2 s2 rp2 q2 => ?_⟩
  exact ⟨F2, M2, d, e, Q, rp1.mono s2.same, rp2, s2.rel, q2, fun v z F3 M3 H3 s3 => k v z F3 M3 H3 ((s1.trans s2).trans s3)⟩
theorem de_op {op : Operator} {r : RD2} (ho : OpD X Y (binaryOp op) r) (ha : DE X Y a t) (hb : DE X Y b u) : DE X Y (.BinOp a op b pos) (dOp r t u) :=
  PE.weak (pe_op ho ha hb) fun _ _ _ q => can_op q
theorem de_cmp {op : CmpOp} {r : RD2} (ho : OpD X Y (compareOp op) r) (ha : DE X Y a t) (hb : DE X Y b u) (hm : behindInMarks op b = false) : DE X Y (.Compare a [op] [b] pos) (dOp r t u) :=
  PE.weak (pe_cmpR ho ha hb hm) fun _ _ _ q => can_op q
theorem dt_cmp {op : CmpOp} {r : RD2} (ho : OpD X Y (compareOp op) r) (ha : DE X Y a t) (hb : DE X Y b u) (hm : behindInMarks op b = false) : DT X Y (.Compare a [op] [b] pos) (dB (dOp r t u)) := by
  refine PT.weak (pt_cmpR ho ha hb hm) ?_
  rintro σ H Q0 ⟨F, M, ρ, Q, rs, rl, q, k⟩
  refine can_op ⟨F, M, ρ, _, rs, rl, q, fun v d F1 M1 H1 s1 rp ⟨b, e, q1⟩ => ?_⟩
  subst e
  cases rp
  exact ⟨b, rfl, k b F1 M1 H1 s1 q1⟩
def dChain (r r' : RD2) (t u v : DTE) : DTE := fun ρ M Q => t ρ M fun x M1 => u ρ M1 fun y M2 => r x y M2 fun z M3 => ∃ k, z = .bl k ∧
  (if k = true then v ρ M3 fun w M4 => r' y w M4 Q else Q (.bl false) M3)
theorem can_chain {K : PySem.W.Frag} {Y : KJ K} {r r' : RD2} {σ : St} {H : Hp} {Q0 : VK} (h : canE Y (dChain r r' t u v) σ H Q0) : tChain (can2 Y r) (can2 Y r') (canE Y t) (canE Y u) (canE Y v) σ H Q0 := by
  obtain ⟨F, M, ρ, Q, rs, rl, q, k⟩ := h
  refine ⟨F, M, ρ, _, rs, rl, q, fun x d F1 M1 H1 s1 rp1 q1 => ?_⟩
  refine ⟨F1, M1, ρ, _, rs.mono s1.same, s1.rel, q1, fun y e F2 M2 H2 s2 rp2 q2 => ?_⟩
  have s12 := s1.trans s2
  refine ⟨F2, M2, d, e, _, rp1.mono s2.same, rp2, s2.rel, q2, fun vv z F3 M3 H3 s3 rp3 ⟨kk, ez, q3⟩ => ?_⟩
  have s13 := s12.trans s3
  subst ez
  cases rp3
  refine ⟨kk, rfl, ?_⟩
  cases kk with
  | false => exact k _ _ F3 M3 H3 s13 (.bl false) q3
  | true =>
    refine iteT ⟨F3, M3, ρ, _, rs.mono s13.same, s3.rel, q3, fun w dw F4 M4 H4 s4 rp4 q4 => ?_⟩
    exact ⟨F4, M4, e, dw, Q, (rp2.mono s3.same).mono s4.same, rp4, s4.rel, q4, fun v z F5 M5 H5 s5 => k v z F5 M5 H5 ((s13.trans s4).trans s5)⟩
theorem de_chain {op op' : CmpOp} {r r' : RD2} (ho : OpD X Y (compareOp op) r) (ho' : OpD X Y (compareOp op') r') (ha : DE X Y a t) (hb : DE X Y b u) (hc : DE X Y c v)
    (hm : lastMarks [op, op'] [b, c] = false := by with_unfolding_all rfl) : DE X Y (.Compare a [op, op'] [b, c] pos) (dChain r r' t u v) :=
  PE.weak (pe_chain ho ho' ha hb hc hm) fun _ _ _ q => can_chain q
theorem dt_chain {op op' : CmpOp} {r r' : RD2} (ho : OpD X Y (compareOp op) r) (ho' : OpD X Y (compareOp op') r') (ha : DE X Y a t) (hb : DE X Y b u) (hc : DE X Y c v)
    (hm : lastMarks [op, op'] [b, c] = false := by with_unfolding_all rfl) : DT X Y (.Compare a [op, op'] [b, c] pos) (dB (dChain r r' t u v)) := by
  refine PT.weak (pt_chain ho ho' ha hb hc hm) ?_
  rintro σ H Q0 ⟨F, M, ρ, Q, rs, rl, q, k⟩
  refine can_chain ⟨F, M, ρ, _, rs, rl, q, fun v d F1 M1 H1 s1 rp ⟨b, e, q1⟩ => ?_⟩
  subst e
  cases rp
  exact ⟨b, rfl, k b F1 M1 H1 s1 q1⟩
end

/-! ### the items of a list, wherever it stands -/
def mol : Option MO → Option (List DL.D)
  | some (.lst xs) => some xs
  | _ => none
theorem mol_some {o : Option MO} {ds : List DL.D} (h : mol o = some ds) : o = some (.lst ds) := by
  cases o with
  | none => cases h
  | some m => cases m with
    | lst xs => cases h; rfl
    | obj x fs => cases h
    | dic kvs => cases h
def lstOf (M : Mp) : DL.D → Option (List DL.D)
  | .lst xs => some xs
  | .slst xs => some xs
  | .ref a => mol (M a)
  | _ => none
/-- the same, without the lists that the module or the caller holds -/
def lstIn (M : Mp) : DL.D → Option (List DL.D)
  | .lst xs => some xs
  | .ref a => mol (M a)
  | _ => none
section
variable {K : PySem.W.Frag} {Y : KJ K} {F : Hp} {M : Mp} {H : Hp}
theorem lstOf_rp {v : V} {d : DL.D} {ds : List DL.D} (R : Rel Y F M H) (r : Rp K F v d) (h : lstOf M d = some ds) : ∃ a xs, v = .ref a ∧ SqL K H a xs ∧ RpAll K F xs ds := by
  cases r with
  | lst e ra => cases h; exact ⟨_, _, rfl, SqL.of (R.sub _ _ e), ra⟩
  | slst e ra => cases h; exact ⟨_, _, rfl, R.sub.seq e, ra⟩
  | ref a =>
    obtain ⟨xs, e1, ra⟩ := R.lst (mol_some (show mol (M a) = some ds from h))
    exact ⟨a, xs, rfl, SqL.of e1, ra⟩
  | _ => cases h
theorem lstIn_rp {v : V} {d : DL.D} {ds : List DL.D} (R : Rel Y F M H) (r : Rp K F v d) (h : lstIn M d = some ds) : ∃ a xs, v = .ref a ∧ H a = some (.lst xs) ∧ RpAll K F xs ds := by
  cases r with
  | lst e ra => cases h; exact ⟨_, _, rfl, R.sub _ _ e, ra⟩
  | ref a =>
    obtain ⟨xs, e1, ra⟩ := R.lst (mol_some (show mol (M a) = some ds from h))
    exact ⟨a, xs, rfl, e1, ra⟩
  | _ => cases h
theorem lstOf_ref {a : Addr} {ds : List DL.D} (h : M a = some (.lst ds)) : lstOf M (.ref a) = some ds := by show mol (M a) = some ds; rw [h]; rfl
theorem lstIn_ref {a : Addr} {ds : List DL.D} (h : M a = some (.lst ds)) : lstIn M (.ref a) = some ds := by show mol (M a) = some ds; rw [h]; rfl
end

/-! ### arithmetic, joining -/
def rInt (C : Int → Int → Prop) (g : Int → Int → DL.D) : RD2 := fun x y M Q => ∃ i j, x = .int i ∧ y = .int j ∧ C i j ∧ Q (g i j) M
def rAddD (fz : Bool) : RD2
  | .int i, .int j, M, Q => Q (.int (i + j)) M
  | .str x, .str y, M, Q => x.length + y.length ≤ sizeLine ∧ Q (.str (x ++ y)) M
  | .tup xs, .tup ys, M, Q => xs.length + ys.length ≤ sizeLine ∧ Q (.tup (xs ++ ys)) M
  | x, y, M, Q => ∃ xs ys, lstIn M x = some xs ∧ lstIn M y = some ys ∧ xs.length + ys.length ≤ sizeLine ∧ newL fz (xs ++ ys) M Q
section
variable {X : Cx} {Y : KJ X.K}
theorem op_int {f : Value → Value → Sem Value} {C : Int → Int → Prop} {g : Int → Int → V} {g' : Int → Int → DL.D} (h : OpR X f (rI C g)) (hg : ∀ F i j, Rp X.K F (g i j) (g' i j)) : OpD X Y f (rInt C g') := by
  intro pins s σ H x y v u Q0 I rx ry ⟨F, M, d, e, Q, r1, r2, rl, ⟨i, j, e1, e2, c, q⟩, k⟩
  subst e1 e2
  cases r1
  cases r2
  exact h pins s σ H _ _ v u Q0 I rx ry ⟨i, j, rfl, rfl, c, k _ _ F M H (Stp.refl rl) (hg F i j) q⟩
theorem op_int0 {f : Value → Value → Sem Value} {g : Int → Int → V} {g' : Int → Int → DL.D} (h : OpR X f (rI0 g)) (hg : ∀ F i j, Rp X.K F (g i j) (g' i j)) : OpD X Y f (rInt (fun _ _ => True) g') := by
  intro pins s σ H x y v u Q0 I rx ry ⟨F, M, d, e, Q, r1, r2, rl, ⟨i, j, e1, e2, _, q⟩, k⟩
  subst e1 e2
  cases r1
  cases r2
  exact h pins s σ H _ _ v u Q0 I rx ry ⟨i, j, rfl, rfl, k _ _ F M H (Stp.refl rl) (hg F i j) q⟩
theorem od_add (fz : Bool) : OpD X Y (binaryOp .Add) (rAddD fz) := by
  intro pins s σ H x y v u Q0 I rx ry ⟨F, M, d, e, Q, r1, r2, rl, q, k⟩
  have lists : ∀ xs ys, lstIn M d = some xs → lstIn M e = some ys → xs.length + ys.length ≤ sizeLine → newL fz (xs ++ ys) M Q → wpAny (model X.prog X.w) X.A (binaryOp .Add v u) (EP X pins σ Q0) X.xe s := by
    intro xs ys e1 e2 hz q
    obtain ⟨a, vs, rfl, h1, ra⟩ := lstIn_rp rl r1 e1
    obtain ⟨b, ws, rfl, h2, rb⟩ := lstIn_rp rl r2 e2
    exact op_cat pins s σ H _ _ v u Q0 I rx ry ⟨a, b, vs, ws, rfl, rfl, h1, h2, by rw [ra.length, rb.length]; exact hz, fun p hp => newL_ok rl (ra.append rb) q k p hp⟩
  unfold rAddD at q
  split at q
  · cases r1
    cases r2
    exact op_add pins s σ H _ _ v u Q0 I rx ry ⟨_, _, rfl, rfl, k _ _ F M H (Stp.refl rl) (.int _) q⟩
  · cases r1
    cases r2
    exact op_add_str pins s σ H _ _ v u Q0 I rx ry ⟨_, _, rfl, rfl, q.1, k _ _ F M H (Stp.refl rl) (.str _) q.2⟩
  · cases r1 with
    | tup s1 ra =>
      cases r2 with
      | tup s2 rb =>
        refine op_catA pins s σ H _ _ v u Q0 I rx ry ⟨_, _, _, _, rfl, rfl, Same.tseq rl.sub s1, Same.tseq rl.sub s2, by rw [ra.length, rb.length]; exact q.1, fun e => ?_, fun _ e => ?_, fun _ _ p hp => newT_ok rl (ra.append rb) q.2 k p hp⟩
        · subst e
          cases ra
          exact k _ _ F M H (Stp.refl rl) (.tup s2 rb) q.2
        · subst e
          cases rb
          refine k _ _ F M H (Stp.refl rl) (.tup s1 ra) ?_
          have := q.2
          rwa [List.append_nil] at this
  · obtain ⟨xs, ys, e1, e2, hz, q⟩ := q
    exact lists xs ys e1 e2 hz q

theorem od_sub : OpD X Y (binaryOp .Sub) (rInt (fun _ _ => True) fun i j => .int (i - j)) := op_int0 op_sub fun _ _ _ => .int _
theorem od_mod : OpD X Y (binaryOp .Mod) (rInt (fun _ j => 0 < j) fun i j => .int (i % j)) := op_int op_mod fun _ _ _ => .int _
theorem od_fdiv : OpD X Y (binaryOp .FloorDiv) (rInt (fun _ j => 0 < j ∧ j.natAbs < 2 ^ 64) fun i j => .int (i / j)) := by
  intro pins s σ H x y v u Q0 I rx ry ⟨F, M, d, e, Q, r1, r2, rl, ⟨i, j, e1, e2, c, q⟩, k⟩
  exact op_int (C := CDivW) (g' := fun i j => .int (i / j)) op_fdivW (fun _ _ _ => .int _) pins s σ H x y v u Q0 I rx ry ⟨F, M, d, e, Q, r1, r2, rl, ⟨i, j, e1, e2, wide_div c.1 c.2 (by decide) (by decide), q⟩, k⟩
theorem od_pow : OpD X Y (binaryOp .Pow) (rInt (fun i j => 0 ≤ j ∧ j ≤ 1000000 ∧ i.natAbs < 2 ^ 64) fun i j => .int (i ^ j.toNat)) := op_int op_pow fun _ _ _ => .int _
/-- ** of great numbers -/
theorem op_powW : OpR X (binaryOp .Pow) (rI (fun i j => 0 ≤ j ∧ (Builtin.Int.intBits i : Int) * j ≤ 2 ^ 27) fun i j => .int (i ^ j.toNat)) := opI fun _ _ _ _ _ _ _ hc q => pow_int hc.1 hc.2 q
theorem od_powW : OpD X Y (binaryOp .Pow) (rInt (fun i j => 0 ≤ j ∧ (Builtin.Int.intBits i : Int) * j ≤ 2 ^ 27) fun i j => .int (i ^ j.toNat)) := op_int op_powW fun _ _ _ => .int _

/-! ### * -/
def repS (x : Str) (n : Int) : Str := ⟨(List.replicate n.toNat x.cps.toList).flatten.toArray⟩
theorem repS_foldl (x : Str) : ∀ (n : Nat) (acc : Array Nat), (List.replicate n x.cps).foldl (· ++ ·) acc = acc ++ (List.replicate n x.cps.toList).flatten.toArray
  | 0, acc => by simp
  | n + 1, acc => by
    rw [List.replicate_succ, List.foldl_cons, repS_foldl x n, List.replicate_succ, List.flatten_cons]
    apply Array.ext'
    simp
theorem repS_eq (x : Str) (n : Int) : (⟨(List.replicate n.toNat x.cps).foldl (· ++ ·) #[]⟩ : Str) = repS x n := by
  unfold repS
  rw [repS_foldl]
  simp
theorem repS_len (x : Str) (n : Int) : (repS x n).length = n.toNat * x.length := by
  show (List.replicate n.toNat x.cps.toList).flatten.toArray.size = n.toNat * x.cps.size
  simp
theorem op_mul_str : OpR X (binaryOp .Mult) (fun x y H Q => ∃ z n, x = .str z ∧ y = .int n ∧ 0 ≤ n ∧ n ≤ 16384 ∧ z.length ≤ 1024 ∧ Q (.str (repS z n)) H) := by
  intro pins s σ H x y v u Q I rx ry h
  obtain ⟨z, n, rfl, rfl, h1, h2, hz, q⟩ := h
  obtain ⟨t, rfl⟩ := rx
  obtain ⟨t', rfl⟩ := ry
  have hsz : (sizeLine : Nat) = 16777216 := sizeLine_eq
  have hnat : z.length * n.toNat ≤ 1024 * 16384 := Nat.mul_le_mul hz (by omega)
  have fin : ∀ tk : Tok, EP X pins σ Q (.str (repS z n) tk) { s with toks := s.toks + 1 } := fun tk => ⟨.str _, H, I.tok _, ⟨_, rfl⟩, q⟩
  refine PySem.P.mul_str ?_ (fun h3 _ => ?_) (fun h3 _ => ?_) ?_
  · rw [decide_eq_false (by omega), decide_eq_false (by omega)]; rfl
  · intro hgt
    have hdiv : (1024 : Int) ≤ (2 ^ 63 - 1) / n := (Int.le_ediv_iff_mul_le (by omega)).mpr (by omega)
    omega
  · unfold Builtin.Str.tooLong
    rw [decide_eq_false (by omega)]
  · split
    · rename_i h0
      have e0 : n = 0 := by omega
      subst e0
      exact ⟨by decide, fin _⟩
    · split
      · rename_i h0 h3
        have e1 : repS z n = z := by
          have e : n = 1 ∨ z.length = 0 := by simpa using h3
          unfold repS
          rcases e with e | e
          · subst e; simp
          · have ez : z.cps = #[] := Array.size_eq_zero_iff.mp e
            obtain ⟨c⟩ := z
            simp only at ez
            subst ez
            simp
        refine ⟨.str z, H, I, ⟨_, rfl⟩, ?_⟩
        rw [← e1]; exact q
      · refine ⟨?_, ?_⟩
        · rw [repS_eq, repS_len, Nat.mul_comm]; omega
        · rw [repS_eq]; exact fin _
def rMulD (fz : Bool) : RD2
  | .int i, .int j, M, Q => (∃ a b : Nat, i.natAbs < 2 ^ a ∧ j.natAbs < 2 ^ b ∧ a + b ≤ 134217728) ∧ Q (.int (i * j)) M
  | .str x, .int n, M, Q => 0 ≤ n ∧ n ≤ 16384 ∧ x.length ≤ 1024 ∧ Q (.str (repS x n)) M
  | x, .int n, M, Q => ∃ xs, lstIn M x = some xs ∧ 0 ≤ n ∧ n < 2 ^ 62 ∧ xs.length * n.toNat ≤ sizeLine ∧ newL fz (List.replicate n.toNat xs).flatten M Q
  | _, _, _, _ => False
theorem od_mul (fz : Bool) : OpD X Y (binaryOp .Mult) (rMulD fz) := by
  intro pins s σ H x y v u Q0 I rx ry ⟨F, M, d, e, Q, r1, r2, rl, q, k⟩
  unfold rMulD at q
  split at q
  · cases r1
    cases r2
    obtain ⟨⟨a, b, ha, hb, hab⟩, q⟩ := q
    exact (opI fun _ _ _ _ _ _ _ hc q => mul_int q (CMulX.ok hc)) pins s σ H _ _ v u Q0 I rx ry ⟨_, _, rfl, rfl, mulx_ok ha hb hab, k _ _ F M H (Stp.refl rl) (.int _) q⟩
  · cases r1
    cases r2
    obtain ⟨h1, h2, h3, q⟩ := q
    exact op_mul_str pins s σ H _ _ v u Q0 I rx ry ⟨_, _, rfl, rfl, h1, h2, h3, k _ _ F M H (Stp.refl rl) (.str _) q⟩
  · cases r2
    obtain ⟨xs, e1, h1, h2, hz, q⟩ := q
    obtain ⟨a, vs, rfl, h3, ra⟩ := lstIn_rp rl r1 e1
    exact op_rep pins s σ H _ _ v u Q0 I rx ry ⟨a, _, vs, rfl, rfl, h3, by omega, by omega, by rw [ra.length]; exact hz, fun p hp => newL_ok rl (ra.rep _) q k p hp⟩
  · exact q.elim

/-! ### == and != -/
mutual
def D.py : DL.D → Option PyData
  | .non => some .none
  | .bl b => some (.bool b)
  | .int i => some (.int i)
  | .str x => some (.str x)
  | .tup xs => match pyAll xs with
    | some ps => some (.tuple ps)
    | none => none
  | .tupx xs => match pyAll xs with
    | some ps => some (.tuple ps)
    | none => none
  | .lst xs => match pyAll xs with
    | some ps => some (.list ps)
    | none => none
  | .slst xs => match pyAll xs with
    | some ps => some (.list ps)
    | none => none
  | .ref _ => none
  | .dct _ _ => none
  | .exc _ _ => none
  | .lam _ _ => none
def pyAll : List DL.D → Option (List PyData)
  | [] => some []
  | x :: xs => match x.py, pyAll xs with
    | some p, some ps => some (p :: ps)
    | _, _ => none
end
mutual
theorem py_dp {K : PySem.W.Frag} {F H : Hp} (sub : Same F H) : ∀ (d : DL.D) (v : V) (p : PyData), Rp K F v d → d.py = some p → Dp K H v p
  | .non, _, _, r, h => by cases r; simp only [D.py] at h; cases h; exact .non
  | .bl b, _, _, r, h => by cases r; simp only [D.py] at h; cases h; exact .bl b
  | .int i, _, _, r, h => by cases r; simp only [D.py] at h; cases h; exact .int i
  | .str x, _, _, r, h => by cases r; simp only [D.py] at h; cases h; exact .str x
  | .ref a, _, _, r, h => by simp only [D.py] at h; cases h
  | .dct _ _, _, _, r, h => by simp only [D.py] at h; cases h
  | .exc _ _, _, _, r, h => by simp only [D.py] at h; cases h
  | .lam _ _, _, _, r, h => by simp only [D.py] at h; cases h
  | .tup xs, _, _, r, h => by
    cases r with
    | tup sq ra =>
      simp only [D.py] at h
      split at h
      · rename_i ps e
        cases h
        exact .tup (Same.tseq sub sq) (pyAll_dp sub xs _ ps ra e)
      · cases h
  | .tupx xs, _, _, r, h => by
    cases r with
    | tupx sq _ ra =>
      simp only [D.py] at h
      split at h
      · rename_i ps e
        cases h
        exact .tup (.inl (.inr ⟨_, sub _ _ sq⟩)) (pyAll_dp sub xs _ ps ra e)
      · cases h
  | .lst xs, _, _, r, h => by
    cases r with
    | lst sq ra =>
      simp only [D.py] at h
      split at h
      · rename_i ps e
        cases h
        exact .lst (SqL.of (sub _ _ sq)) (pyAll_dp sub xs _ ps ra e)
      · cases h
  | .slst xs, _, _, r, h => by
    cases r with
    | slst sq ra =>
      simp only [D.py] at h
      split at h
      · rename_i ps e
        cases h
        exact .lst (sub.seq sq) (pyAll_dp sub xs _ ps ra e)
      · cases h
theorem pyAll_dp {K : PySem.W.Frag} {F H : Hp} (sub : Same F H) : ∀ (ds : List DL.D) (vs : List V) (ps : List PyData), RpAll K F vs ds → pyAll ds = some ps → DpAll K H vs ps
  | [], _, _, r, h => by cases r; simp only [pyAll] at h; cases h; exact .nil
  | d :: ds, _, _, r, h => by
    cases r with
    | cons r1 r2 =>
      simp only [pyAll] at h
      split at h
      · rename_i p ps e1 e2
        cases h
        exact .cons (py_dp sub d _ p r1 e1) (pyAll_dp sub ds _ ps r2 e2)
      · cases h
end
/-- a value's data; a list that may change: as it stands -/
def pyM (M : Mp) : DL.D → Option PyData
  | .ref a => match mol (M a) with
    | some xs => match pyAll xs with
      | some ps => some (.list ps)
      | none => none
    | none => none
  | d => d.py
theorem pyM_dp {K : PySem.W.Frag} {Y : KJ K} {F : Hp} {M : Mp} {H : Hp} (R : Rel Y F M H) {v : V} {d : DL.D} {p : PyData} (r : Rp K F v d) (h : pyM M d = some p) : Dp K H v p := by
  unfold pyM at h
  split at h
  · cases r
    split at h
    · rename_i xs e
      split at h
      · rename_i ps e2
        cases h
        obtain ⟨vs, h1, ra⟩ := R.lst (mol_some e)
        exact .lst (SqL.of h1) (pyAll_dp R.sub xs vs ps ra e2)
      · cases h
    · cases h
  · exact py_dp R.sub _ _ _ r h
def rEqD2 (neg : Bool) : RD2
  | .str a, .str b, M, Q => Q (.bl (if neg then !decide (a = b) else decide (a = b))) M
  | .int a, .int b, M, Q => Q (.bl (if neg then !decide (a = b) else decide (a = b))) M
  | .bl a, .bl b, M, Q => Q (.bl (if neg then !decide (a = b) else decide (a = b))) M
  | .str _, .non, M, Q => Q (.bl neg) M
  | .non, .str _, M, Q => Q (.bl neg) M
  | .int _, .non, M, Q => Q (.bl neg) M
  | .non, .int _, M, Q => Q (.bl neg) M
  | .bl _, .non, M, Q => Q (.bl neg) M
  | .non, .bl _, M, Q => Q (.bl neg) M
  | .non, .non, M, Q => Q (.bl (!neg)) M
  | .int _, .str _, M, Q => Q (.bl neg) M
  | .str _, .int _, M, Q => Q (.bl neg) M
  | .bl _, .str _, M, Q => Q (.bl neg) M
  | .str _, .bl _, M, Q => Q (.bl neg) M
  | x, y, M, Q => ∃ p q, pyM M x = some p ∧ pyM M y = some q ∧ SeqAt.shaped p = true ∧ SeqAt.shaped q = true ∧ Q (.bl (if neg then !PyData.eqv p q else PyData.eqv p q)) M
theorem od_eqs (neg : Bool) (hu : X.A.units + 64 < cLine) : OpD X Y (compareOp (if neg then .NotEq else .Eq)) (rEqD2 neg) := by
  intro pins s σ H x y v u Q0 I rx ry ⟨F, M, d, e, Q, r1, r2, rl, q, k⟩
  have sc : ∀ b : Bool, L2.scal x y = true → Rp X.K F (.bl b) (.bl b) → (if neg then !decide (x = y) else decide (x = y)) = b → Q (.bl b) M → wpAny (model X.prog X.w) X.A (compareOp (if neg then .NotEq else .Eq) v u) (EP X pins σ Q0) X.xe s := by
    intro b hs _ hb q
    have k1 := k _ _ F M H (Stp.refl rl) (.bl b) q
    cases neg with
    | true => exact op_ne pins s σ H x y v u Q0 I rx ry ⟨hs, by rw [show (!decide (x = y)) = b from hb]; exact k1⟩
    | false => exact op_eq pins s σ H x y v u Q0 I rx ry ⟨hs, by rw [show decide (x = y) = b from hb]; exact k1⟩
  unfold rEqD2 at q
  split at q
  all_goals first
    | (cases r1; cases r2; refine sc _ rfl (.bl _) ?_ q; cases neg <;> simp)
    | (obtain ⟨p, p2, e1, e2, h1, h2, q⟩ := q
       have k1 := k _ _ F M H (Stp.refl rl) (.bl _) q
       have d1 := pyM_dp rl r1 e1
       have d2 := pyM_dp rl r2 e2
       cases neg with
       | true => exact op_neD hu pins s σ H x y v u Q0 I rx ry ⟨p, p2, d1, d2, h1, h2, k1⟩
       | false => exact op_eqD hu pins s σ H x y v u Q0 I rx ry ⟨p, p2, d1, d2, h1, h2, k1⟩)
theorem od_eq {n : Nat} (hr : Room n X.A) : OpD X Y (compareOp .Eq) (rEqD2 false) := od_eqs false hr.units
theorem od_ne {n : Nat} (hr : Room n X.A) : OpD X Y (compareOp .NotEq) (rEqD2 true) := od_eqs true hr.units

/-! ### order, in -/
def rLtD : RD2
  | .int i, .int j, M, Q => Q (.bl (decide (i < j))) M
  | .str x, .str y, M, Q => Q (.bl (decide (x.cps.toList < y.cps.toList))) M
  | _, _, _, _ => False
theorem od_lt : OpD X Y (compareOp .Lt) rLtD := by
  intro pins s σ H x y v u Q0 I rx ry ⟨F, M, d, e, Q, r1, r2, rl, q, k⟩
  unfold rLtD at q
  split at q
  · cases r1
    cases r2
    exact op_lt pins s σ H _ _ v u Q0 I rx ry ⟨_, _, rfl, rfl, k _ _ F M H (Stp.refl rl) (.bl _) q⟩
  · cases r1
    cases r2
    exact op_lt_str pins s σ H _ _ v u Q0 I rx ry ⟨_, _, rfl, rfl, k _ _ F M H (Stp.refl rl) (.bl _) q⟩
  · exact q.elim
theorem od_le : OpD X Y (compareOp .LtE) (rInt (fun _ _ => True) fun i j => .bl (decide (i ≤ j))) := op_int0 op_le fun _ _ _ => .bl _
theorem od_gt : OpD X Y (compareOp .Gt) (rInt (fun _ _ => True) fun i j => .bl (decide (j < i))) := op_int0 op_gt fun _ _ _ => .bl _
theorem od_ge : OpD X Y (compareOp .GtE) (rInt (fun _ _ => True) fun i j => .bl (decide (j ≤ i))) := op_int0 op_ge fun _ _ _ => .bl _
/-- a flat value as it is told without the heap -/
def vOf : DL.D → V
  | .bl b => .bl b
  | .int i => .int i
  | .str x => .str x
  | _ => .non
def flatD : DL.D → Bool
  | .non => true
  | .bl _ => true
  | .int _ => true
  | .str _ => true
  | _ => false
theorem flat_v {K : PySem.W.Frag} {F : Hp} {v : V} {d : DL.D} (r : Rp K F v d) (h : flatD d = true) : v = vOf d ∧ L2.flatV v = true := by
  cases r <;> first | exact ⟨rfl, rfl⟩ | cases h
theorem flat_vs {K : PySem.W.Frag} {F : Hp} : ∀ {vs : List V} {ds : List DL.D}, RpAll K F vs ds → ds.all flatD = true → vs = ds.map vOf ∧ vs.all L2.flatV = true
  | _, _, .nil, _ => ⟨rfl, rfl⟩
  | _, _, .cons r t, h => by
    rw [List.all_cons, Bool.and_eq_true] at h
    obtain ⟨e1, e2⟩ := flat_v r h.1
    obtain ⟨e3, e4⟩ := flat_vs t h.2
    exact ⟨by rw [List.map_cons, ← e1, ← e3], by rw [List.all_cons, e2, e4]; rfl⟩
def seqOf (M : Mp) : DL.D → Option (List DL.D)
  | .tup xs => some xs
  | .tupx xs => some xs
  | d => lstOf M d
theorem seqOf_rp {K : PySem.W.Frag} {Y : KJ K} {F : Hp} {M : Mp} {H : Hp} {v : V} {d : DL.D} {ds : List DL.D} (R : Rel Y F M H) (r : Rp K F v d) (h : seqOf M d = some ds) : ∃ a xs, v = .ref a ∧ (SqL K H a xs ∨ SqT K H a xs) ∧ RpAll K F xs ds := by
  unfold seqOf at h
  split at h
  · cases h
    cases r with
    | tup sq ra => exact ⟨_, _, rfl, .inr (Same.tseq R.sub sq), ra⟩
  · cases h
    cases r with
    | tupx sq _ ra => exact ⟨_, _, rfl, .inr (.inl (.inr ⟨_, R.sub _ _ sq⟩)), ra⟩
  · obtain ⟨a, xs, e, h1, ra⟩ := lstOf_rp R r h
    exact ⟨a, xs, e, .inl h1, ra⟩
def rInD (neg : Bool) : RD2
  | .str x, .str y, M, Q => ∃ c, x = ⟨#[c]⟩ ∧ Q (.bl (if neg then !decide (c ∈ y.cps.toList) else decide (c ∈ y.cps.toList))) M
  | d, e, M, Q => ∃ ys, seqOf M e = some ys ∧ flatD d = true ∧ ys.all flatD = true ∧ Q (.bl (if neg then !(ys.any fun y => L2.eqV (vOf y) (vOf d)) else ys.any fun y => L2.eqV (vOf y) (vOf d))) M
theorem od_ins (neg : Bool) : OpD X Y (compareOp (if neg then .NotIn else .In)) (rInD neg) := by
  intro pins s σ H x y v u Q0 I rx ry ⟨F, M, d, e, Q, r1, r2, rl, q, k⟩
  unfold rInD at q
  split at q
  · cases r1
    cases r2
    obtain ⟨c, e1, q⟩ := q
    subst e1
    have k1 := k _ _ F M H (Stp.refl rl) (.bl _) q
    cases neg with
    | true => exact op_notIn_sign pins s σ H _ _ v u Q0 I rx ry ⟨c, _, rfl, rfl, k1⟩
    | false => exact op_in_sign pins s σ H _ _ v u Q0 I rx ry ⟨c, _, rfl, rfl, k1⟩
  · obtain ⟨ys, e1, f1, f2, q⟩ := q
    have k1 := k _ _ F M H (Stp.refl rl) (.bl _) q
    obtain ⟨a, xs, rfl, h1, ra⟩ := seqOf_rp rl r2 e1
    obtain ⟨ev, fv⟩ := flat_v r1 f1
    obtain ⟨ews, fws⟩ := flat_vs ra f2
    have ei : (ys.any fun y => L2.eqV (vOf y) (vOf d)) = L2.inV x xs := by
      unfold L2.inV
      rw [ews, ev, List.any_map]
      rfl
    rw [ei] at k1
    cases neg with
    | true => exact op_notIn_seq pins s σ H _ _ v u Q0 I rx ry ⟨a, xs, rfl, h1, fv, fws, k1⟩
    | false => exact op_in_seq pins s σ H _ _ v u Q0 I rx ry ⟨a, xs, rfl, h1, fv, fws, k1⟩
theorem od_in : OpD X Y (compareOp .In) (rInD false) := od_ins false
theorem od_notIn : OpD X Y (compareOp .NotIn) (rInD true) := od_ins true
def isNon : DL.D → Bool
  | .non => true
  | _ => false
def rIsN (neg : Bool) : RD2 := fun x y M Q => y = .non ∧ Q (.bl (if neg then !isNon x else isNon x)) M
theorem isNon_v {K : PySem.W.Frag} {F : Hp} {v : V} {d : DL.D} (r : Rp K F v d) : decide (v = .non) = isNon d := by cases r <;> simp [isNon]
theorem od_iss (neg : Bool) : OpD X Y (compareOp (if neg then .IsNot else .Is)) (rIsN neg) := by
  intro pins s σ H x y v u Q0 I rx ry ⟨F, M, d, e, Q, r1, r2, rl, ⟨e1, q⟩, k⟩
  subst e1
  cases r2
  have k1 := k _ _ F M H (Stp.refl rl) (.bl _) q
  rw [← isNon_v r1] at k1
  cases neg with
  | true => exact op_notN pins s σ H _ _ v u Q0 I rx ry ⟨rfl, k1⟩
  | false => exact op_isN pins s σ H _ _ v u Q0 I rx ry ⟨rfl, k1⟩
theorem od_is : OpD X Y (compareOp .Is) (rIsN false) := od_iss false
theorem od_isNot : OpD X Y (compareOp .IsNot) (rIsN true) := od_iss true
end
end DL

/-! DL4: items, slices, built-in calls, methods, what is walked, over data. -/
namespace DL
open PySem PySem.Spec L2
open PyProof.Rows hiding St

section
variable {X : Cx} {Y : KJ X.K} {pos p2 : Pos} {a b e : Expr} {t u : DTE}
/-! ### items -/
def rIxD : RD2
  | .str z, .int i, M, Q => z.length ≤ sizeLine ∧ ∃ c, atI z.cps.toList i = some c ∧ Q (.str ⟨#[c]⟩) M
  | x, .int i, M, Q => ∃ xs d, seqOf M x = some xs ∧ atI xs i = some d ∧ Q d M
  | _, _, _, _ => False
theorem atI_rp {K : PySem.W.Frag} {F : Hp} {vs : List V} {ds : List DL.D} {i : Int} {d : DL.D} (ra : RpAll K F vs ds) (h : atI ds i = some d) : ∃ v, atI vs i = some v ∧ Rp K F v d := by
  unfold atI at h ⊢
  rw [ra.length]
  cases e : ixN ds.length i with
  | none => rw [e] at h; cases h
  | some j =>
    rw [e] at h
    exact ra.get (show ds[j]? = some d from h)
theorem ixd : IxR X (can2 Y rIxD) := by
  intro value slice pins s σ H x y v w Q0 I rx ry ⟨F, M, d, e, Q, r1, r2, rl, q, k⟩ hs
  unfold rIxD at q
  split at q
  · cases r1
    cases r2
    obtain ⟨hz, c, hc, q⟩ := q
    exact ix_str value slice pins s σ H _ _ v w Q0 I rx ry ⟨_, _, c, rfl, rfl, hz, hc, k _ _ F M H (Stp.refl rl) (.str _) q⟩ hs
  · cases r2
    obtain ⟨xs, dd, e1, e2, q⟩ := q
    obtain ⟨p, vs, rfl, h1, ra⟩ := seqOf_rp rl r1 e1
    obtain ⟨vv, h2, rp⟩ := atI_rp ra e2
    have k1 := k vv dd F M H (Stp.refl rl) rp q
    rcases h1 with h1 | h1
    · exact ix_list value slice pins s σ H _ _ v w Q0 I rx ry ⟨p, vs, _, vv, rfl, rfl, h1, h2, k1⟩ hs
    · exact ix_tup value slice pins s σ H _ _ v w Q0 I rx ry ⟨p, vs, _, vv, rfl, rfl, h1, h2, k1⟩ hs
  · exact q.elim
theorem de_ix (ha : DE X Y a t) (hb : DE X Y b u) (hs : PlainIx b := by exact fun _ _ => rfl) : DE X Y (.Subscript a b pos) (dOp rIxD t u) :=
  PE.weak (pe_ix ixd ha hb hs) fun _ _ _ q => can_op q

/-! ### slices -/
abbrev DTO := Rho → Mp → (Option Int → Mp → Prop) → Prop
def canO {K : PySem.W.Frag} (Y : KJ K) (t : DTO) : TO := fun σ H Q0 => ∃ F M ρ Q, RelS K F σ ρ ∧ Rel Y F M H ∧ t ρ M Q ∧ ∀ o F' M' H', Stp Y F M H F' M' H' → Q o M' → Q0 o H'
abbrev DO (X : Cx) (Y : KJ X.K) (e : Option Expr) (t : DTO) : Prop := PO X e (canO Y t)
def dNoPart : DTO := fun _ M Q => Q none M
def dPart (t : DTE) : DTO := fun ρ M Q => t ρ M fun d M1 => ∃ i, d = .int i ∧ Q (some i) M1
theorem do_none : DO X Y none dNoPart := by
  refine ⟨fun pins s σ H Q0 I ⟨F, M, ρ, Q, rs, rl, q, k⟩ => ?_⟩
  exact po_none.run pins s σ H _ I (k none F M H (Stp.refl rl) q)
theorem do_some (h : DE X Y e t) : DO X Y (some e) (dPart t) := by
  refine ⟨fun pins s σ H Q0 I ⟨F, M, ρ, Q, rs, rl, q, k⟩ => ?_⟩
  refine (po_some h).run pins s σ H _ I ⟨F, M, ρ, _, rs, rl, q, fun v d F1 M1 H1 s1 rp ⟨i, e1, q1⟩ => ?_⟩
  subst e1
  cases rp
  exact ⟨i, rfl, k _ F1 M1 H1 s1 q1⟩
def cutD {α : Type} (xs : List α) (lo hi : Option Int) : List α := (xs.drop (HT.sIx xs.length 0 lo)).take (HT.sIx xs.length xs.length hi - HT.sIx xs.length 0 lo)
theorem cut_rp {K : PySem.W.Frag} {F : Hp} {vs : List V} {ds : List DL.D} (ra : RpAll K F vs ds) (lo hi : Option Int) : RpAll K F (cutV vs lo hi) (cutD ds lo hi) := by
  unfold cutV cutD
  rw [ra.length]
  exact (ra.drop _).take _
def rSlD (fz : Bool) : DL.D → Option Int → Option Int → Mp → DK → Prop
  | .str z, lo, hi, M, Q => z.length ≤ sizeLine ∧ Q (.str (L2.cutS z lo hi)) M
  | .tup xs, lo, hi, M, Q => Q (.tup (cutD xs lo hi)) M
  | x, lo, hi, M, Q => ∃ xs, lstOf M x = some xs ∧ newL fz (cutD xs lo hi) M Q
def canSl {K : PySem.W.Frag} (Y : KJ K) (r : DL.D → Option Int → Option Int → Mp → DK → Prop) : V → Option Int → Option Int → Hp → VK → Prop := fun x lo hi H Q0 => ∃ F M d Q, Rp K F x d ∧ Rel Y F M H ∧ r d lo hi M Q ∧
  ∀ v z F' M' H', Stp Y F M H F' M' H' → Rp K F' v z → Q z M' → Q0 v H'
theorem sld (fz : Bool) : SlR X (canSl Y (rSlD fz)) := by
  intro pins s σ H x v vl vu lo hi sl Q0 I rx hs pl pu ⟨F, M, d, Q, r1, rl, q, k⟩
  unfold rSlD at q
  split at q
  · cases r1
    exact sl_str pins s σ H _ v vl vu lo hi sl Q0 I rx hs pl pu ⟨_, rfl, q.1, k _ _ F M H (Stp.refl rl) (.str _) q.2⟩
  · cases r1 with
    | tup sq ra =>
      refine sl_tupA pins s σ H _ v vl vu lo hi sl Q0 I rx hs pl pu ?_
      refine ⟨_, _, rfl, Same.tseq rl.sub sq, fun ⟨h1, h2⟩ => ?_, fun _ p hp => newT_ok rl (cut_rp ra lo hi) q k p hp⟩
      rw [ra.length] at h1 h2
      refine k _ _ F M H (Stp.refl rl) (.tup sq ra) ?_
      unfold cutD at q
      rw [h1, h2] at q
      simpa using q
  · obtain ⟨xs, e1, q⟩ := q
    obtain ⟨p, vs, rfl, h1, ra⟩ := lstOf_rp rl r1 e1
    exact sl_list pins s σ H _ v vl vu lo hi sl Q0 I rx hs pl pu ⟨p, vs, rfl, h1, fun p hp => newL_ok rl (cut_rp ra lo hi) q k p hp⟩
def dSl (fz : Bool) (t : DTE) (l h : DTO) : DTE := fun ρ M Q => t ρ M fun x M1 => l ρ M1 fun lo M2 => h ρ M2 fun hi M3 => rSlD fz x lo hi M3 Q
theorem de_slice (fz : Bool) {lo hi : Option Expr} {l h : DTO} (he : DE X Y e t) (hl : DO X Y lo l) (hh : DO X Y hi h) : DE X Y (.Subscript e (.Slice lo hi none p2) pos) (dSl fz t l h) := by
  refine PE.weak (pe_slice (sld (Y := Y) fz) he hl hh) ?_
  rintro σ H Q0 ⟨F, M, ρ, Q, rs, rl, q, k⟩
  refine ⟨F, M, ρ, _, rs, rl, q, fun v d F1 M1 H1 s1 rp q1 => ?_⟩
  refine ⟨F1, M1, ρ, _, rs.mono s1.same, s1.rel, q1, fun lo F2 M2 H2 s2 q2 => ?_⟩
  refine ⟨F2, M2, ρ, _, (rs.mono s1.same).mono s2.same, s2.rel, q2, fun hi F3 M3 H3 s3 q3 => ?_⟩
  exact ⟨F3, M3, d, Q, (rp.mono s2.same).mono s3.same, s3.rel, q3, fun v z F4 M4 H4 s4 => k v z F4 M4 H4 (((s1.trans s2).trans s3).trans s4)⟩

/-! ### built-in calls -/
abbrev RDL := List DL.D → Mp → DK → Prop
def canL {K : PySem.W.Frag} (Y : KJ K) (r : RDL) : List V → Hp → VK → Prop := fun vs H Q0 => ∃ F M ds Q, RpAll K F vs ds ∧ Rel Y F M H ∧ r ds M Q ∧
  ∀ v z F' M' H', Stp Y F M H F' M' H' → Rp K F' v z → Q z M' → Q0 v H'
abbrev CallD (X : Cx) (Y : KJ X.K) (f : Value) (r : RDL) : Prop := CallR X f (canL Y r)
def dCB (r : RDL) (t : DTA) : DTE := fun ρ M Q => t ρ M fun ds M1 => r ds M1 Q
theorem can_cb {K : PySem.W.Frag} {Y : KJ K} {r : RDL} {ta : DTA} {σ : St} {H : Hp} {Q0 : VK} (h : canE Y (dCB r ta) σ H Q0) : tCB (canL Y r) (canA Y ta) σ H Q0 := by
  obtain ⟨F, M, ρ, Q, rs, rl, q, k⟩ := h
  refine ⟨F, M, ρ, _, rs, rl, q, fun vs ds F1 M1 H1 s1 rp q1 => ?_⟩
  exact ⟨F1, M1, ds, Q, rp, s1.rel, q1, fun v z F2 M2 H2 s2 => k v z F2 M2 H2 (s1.trans s2)⟩
theorem de_b {id : String} {x : Str} {p : Pos} {es : List Expr} {r : RDL} {ta : DTA} (hc : CallD X Y (.builtin id) r) (hm : X.mg x = none) (ha : DA X Y (e :: es) ta) (hv : bootBuiltins x = some (.builtin id) := by decide +kernel) (hg : Gl X x := by rfl)
    (hn : x ≠ "__name__" := by decide) (hdb : (x == ("__debug__" : Str)) = false := by decide)
    (he : starEach (e :: es) X.env = (false, eval e X.env) :: starEach es X.env := by rfl) (hpl : (backTo pos (starEach es X.env)).any (·.1) = false := by rfl) : DE X Y (.Call (.Name x p) (e :: es) [] pos) (dCB r ta) :=
  PE.weak (pe_callB hc hg hm hv ha hn hdb he hpl) fun _ _ _ q => can_cb q
theorem de_bT {T : String} {x : Str} {p : Pos} {es : List Expr} {r : RDL} {ta : DTA} (hc : CallD X Y (.type T) r) (hm : X.mg x = none) (ha : DA X Y (e :: es) ta) (hv : bootBuiltins x = some (.type T) := by decide +kernel) (hg : Gl X x := by rfl)
    (hn : x ≠ "__name__" := by decide) (hdb : (x == ("__debug__" : Str)) = false := by decide)
    (he : starEach (e :: es) X.env = (false, eval e X.env) :: starEach es X.env := by rfl) (hpl : (backTo pos (starEach es X.env)).any (·.1) = false := by rfl) : DE X Y (.Call (.Name x p) (e :: es) [] pos) (dCB r ta) :=
  PE.weak (pe_callTy hc hg hm hv ha hn hdb he hpl) fun _ _ _ q => can_cb q
theorem rp1 {K : PySem.W.Frag} {F : Hp} {vs : List V} {d : DL.D} (h : RpAll K F vs [d]) : ∃ v, vs = [v] ∧ Rp K F v d := by
  cases h with
  | cons r t => cases t; exact ⟨_, rfl, r⟩
theorem rp2 {K : PySem.W.Frag} {F : Hp} {vs : List V} {d d' : DL.D} (h : RpAll K F vs [d, d']) : ∃ v v', vs = [v, v'] ∧ Rp K F v d ∧ Rp K F v' d' := by
  cases h with
  | cons r t =>
    obtain ⟨v, e, r'⟩ := rp1 t
    exact ⟨_, v, by rw [e], r, r'⟩
theorem rp_map {K : PySem.W.Frag} {F : Hp} {α : Type} {f : α → DL.D} {g : α → V} (h : ∀ v a, Rp K F v (f a) → v = g a) : ∀ {vs : List V} {as : List α}, RpAll K F vs (as.map f) → vs = as.map g
  | _, [], .nil => rfl
  | _, a :: as, .cons r t => by rw [List.map_cons, h _ a r, rp_map h t]
theorem rp_ints {K : PySem.W.Frag} {F : Hp} {vs : List V} {ns : List Int} (h : RpAll K F vs (ns.map D.int)) : vs = ns.map V.int := rp_map (fun v a r => by cases r; rfl) h
theorem rp_strs {K : PySem.W.Frag} {F : Hp} {vs : List V} {ns : List Str} (h : RpAll K F vs (ns.map D.str)) : vs = ns.map V.str := rp_map (fun v a r => by cases r; rfl) h
theorem rp_bls {K : PySem.W.Frag} {F : Hp} {vs : List V} {ns : List Bool} (h : RpAll K F vs (ns.map D.bl)) : vs = ns.map V.bl := rp_map (fun v a r => by cases r; rfl) h
theorem of_ints {K : PySem.W.Frag} {F : Hp} : ∀ ns : List Int, RpAll K F (ns.map V.int) (ns.map D.int)
  | [] => .nil
  | n :: ns => .cons (.int n) (of_ints ns)
theorem of_strs {K : PySem.W.Frag} {F : Hp} : ∀ ns : List Str, RpAll K F (ns.map V.str) (ns.map D.str)
  | [] => .nil
  | n :: ns => .cons (.str n) (of_strs ns)
def rLen : RDL
  | [.str x], M, Q => x.length ≤ sizeLine ∧ Q (.int x.length) M
  | [d], M, Q => ∃ xs, seqOf M d = some xs ∧ Q (.int xs.length) M
  | _, _, _ => False
theorem cd_len : CallD X Y (.builtin "len") rLen := by
  intro pins s σ H vs us Q0 I r ⟨F, M, ds, Q, rp, rl, q, k⟩
  unfold rLen at q
  split at q
  · obtain ⟨v, rfl, r1⟩ := rp1 rp
    cases r1
    exact call_len pins s σ H _ us Q0 I r ⟨_, _, rfl, ⟨q.1, rfl⟩, k _ _ F M H (Stp.refl rl) (.int _) q.2⟩
  · obtain ⟨v, rfl, r1⟩ := rp1 rp
    obtain ⟨xs, e1, q⟩ := q
    obtain ⟨p, ws, rfl, h1, ra⟩ := seqOf_rp rl r1 e1
    refine call_len_seq pins s σ H _ us Q0 I r ⟨p, ws, rfl, h1, ?_⟩
    rw [ra.length]
    exact k _ _ F M H (Stp.refl rl) (.int _) q
  · exact q.elim
def rAllD : RDL := fun ds M Q => ∃ (d : DL.D) (bs : List Bool), ds = [d] ∧ lstOf M d = some (bs.map D.bl) ∧ Q (.bl (bs.all id)) M
def rAnyD : RDL := fun ds M Q => ∃ (d : DL.D) (bs : List Bool), ds = [d] ∧ lstOf M d = some (bs.map D.bl) ∧ Q (.bl (bs.any id)) M
theorem cd_all (hc : X.calm = true) : CallD X Y (.builtin "all") rAllD := by
  intro pins s σ H vs us Q0 I r ⟨F, M, ds, Q, rp, rl, ⟨d, bs, e, e1, q⟩, k⟩
  subst e
  obtain ⟨v, rfl, r1⟩ := rp1 rp
  obtain ⟨p, ws, rfl, h1, ra⟩ := lstOf_rp rl r1 e1
  rw [rp_bls ra] at h1
  exact cr_all hc pins s σ H _ us Q0 I r ⟨p, bs, rfl, h1, k _ _ F M H (Stp.refl rl) (.bl _) q⟩
theorem cd_any (hc : X.calm = true) : CallD X Y (.builtin "any") rAnyD := by
  intro pins s σ H vs us Q0 I r ⟨F, M, ds, Q, rp, rl, ⟨d, bs, e, e1, q⟩, k⟩
  subst e
  obtain ⟨v, rfl, r1⟩ := rp1 rp
  obtain ⟨p, ws, rfl, h1, ra⟩ := lstOf_rp rl r1 e1
  rw [rp_bls ra] at h1
  exact cr_any hc pins s σ H _ us Q0 I r ⟨p, bs, rfl, h1, k _ _ F M H (Stp.refl rl) (.bl _) q⟩
def rSumD : RDL := fun ds M Q => ∃ (d : DL.D) (ns : List Int), ds = [d] ∧ lstOf M d = some (ns.map D.int) ∧ Q (.int ns.sum) M
theorem cd_sum (hc : X.calm = true) : CallD X Y (.builtin "sum") rSumD := by
  intro pins s σ H vs us Q0 I r ⟨F, M, ds, Q, rp, rl, ⟨d, ns, e, e1, q⟩, k⟩
  subst e
  obtain ⟨v, rfl, r1⟩ := rp1 rp
  obtain ⟨p, ws, rfl, h1, ra⟩ := lstOf_rp rl r1 e1
  rw [rp_ints ra] at h1
  exact cr_sum hc pins s σ H _ us Q0 I r ⟨p, ns, rfl, h1, k _ _ F M H (Stp.refl rl) (.int _) q⟩
def rAbsD : RDL := fun ds M Q => ∃ i, ds = [.int i] ∧ Q (.int (if i < 0 then -i else i)) M
theorem cd_abs : CallD X Y (.builtin "abs") rAbsD := by
  intro pins s σ H vs us Q0 I r ⟨F, M, ds, Q, rp, rl, ⟨i, e, q⟩, k⟩
  subst e
  obtain ⟨v, rfl, r1⟩ := rp1 rp
  cases r1
  exact call_abs pins s σ H _ us Q0 I r ⟨_, rfl, k _ _ F M H (Stp.refl rl) (.int _) q⟩
def rMax2D : RDL := fun ds M Q => ∃ i j, ds = [.int i, .int j] ∧ Q (.int (if j > i then j else i)) M
def rMin2D : RDL := fun ds M Q => ∃ i j, ds = [.int i, .int j] ∧ Q (.int (if j < i then j else i)) M
theorem cd_max2 (hc : X.calm = true) : CallD X Y (.builtin "max") rMax2D := by
  intro pins s σ H vs us Q0 I r ⟨F, M, ds, Q, rp, rl, ⟨i, j, e, q⟩, k⟩
  subst e
  obtain ⟨v, v', rfl, r1, r2⟩ := rp2 rp
  cases r1
  cases r2
  exact call_max2 hc pins s σ H _ us Q0 I r ⟨_, _, rfl, k _ _ F M H (Stp.refl rl) (.int _) q⟩
theorem cd_min2 (hc : X.calm = true) : CallD X Y (.builtin "min") rMin2D := by
  intro pins s σ H vs us Q0 I r ⟨F, M, ds, Q, rp, rl, ⟨i, j, e, q⟩, k⟩
  subst e
  obtain ⟨v, v', rfl, r1, r2⟩ := rp2 rp
  cases r1
  cases r2
  exact call_min2 hc pins s σ H _ us Q0 I r ⟨_, _, rfl, k _ _ F M H (Stp.refl rl) (.int _) q⟩
def rIntD : RDL
  | [.int i], M, Q => Q (.int i) M
  | [.bl b], M, Q => Q (.int (if b = true then 1 else 0)) M
  | _, _, _ => False
theorem cd_int : CallD X Y (.type "int") rIntD := by
  intro pins s σ H vs us Q0 I r ⟨F, M, ds, Q, rp, rl, q, k⟩
  unfold rIntD at q
  split at q
  · obtain ⟨v, rfl, r1⟩ := rp1 rp
    cases r1
    exact call_int1 pins s σ H _ us Q0 I r (.inl ⟨_, rfl, k _ _ F M H (Stp.refl rl) (.int _) q⟩)
  · obtain ⟨v, rfl, r1⟩ := rp1 rp
    cases r1
    exact call_int1 pins s σ H _ us Q0 I r (.inr ⟨_, rfl, k _ _ F M H (Stp.refl rl) (.int _) q⟩)
  · exact q.elim
def rStrD : RDL := fun ds M Q => ∃ i, ds = [.int i] ∧ i.natAbs.log2 < 1920 ∧ Q (.str (toString i)) M
theorem cd_str : CallD X Y (.type "str") rStrD := by
  intro pins s σ H vs us Q0 I r ⟨F, M, ds, Q, rp, rl, ⟨i, e, h1, q⟩, k⟩
  subst e
  obtain ⟨v, rfl, r1⟩ := rp1 rp
  cases r1
  exact call_str_int pins s σ H _ us Q0 I r ⟨_, rfl, h1, k _ _ F M H (Stp.refl rl) (.str _) q⟩
/-- list(a list or a tuple) -/
def rListD (fz : Bool) : RDL := fun ds M Q => ∃ d xs, ds = [d] ∧ seqOf M d = some xs ∧ newL fz xs M Q
theorem cd_list (fz : Bool) : CallD X Y (.type "list") (rListD fz) := by
  intro pins s σ H vs us Q0 I r ⟨F, M, ds, Q, rp, rl, ⟨d, xs, e, e1, q⟩, k⟩
  subst e
  obtain ⟨v, rfl, r1⟩ := rp1 rp
  obtain ⟨p, ws, rfl, h1, ra⟩ := seqOf_rp rl r1 e1
  exact call_list_of pins s σ H _ us Q0 I r ⟨p, ws, rfl, h1, fun l hl => newL_ok rl ra q k l hl⟩
/-- isinstance(x, a built-in class) -/
def tyD (M : Mp) : DL.D → Option String
  | .non => some "NoneType"
  | .bl _ => some "bool"
  | .int _ => some "int"
  | .str _ => some "str"
  | .tup _ => some "tuple"
  | .tupx _ => some "tuple"
  | .lst _ => some "list"
  | .slst _ => some "list"
  | .dct _ _ => some "dict"
  | .exc _ _ => none
  | .lam _ _ => none
  | .ref a => match mol (M a) with
    | some _ => some "list"
    | none => none
theorem tyD_x {K : PySem.W.Frag} {Y : KJ K} {F : Hp} {M : Mp} {H : Hp} {v : V} {d : DL.D} {T : String} (R : Rel Y F M H) (r : Rp K F v d) (h : tyD M d = some T) : TyX K H v (.type T) := by
  cases r with
  | non => cases h; exact .base .non
  | bl b => cases h; exact .base (.bl b)
  | int b => cases h; exact .base (.int b)
  | str b => cases h; exact .base (.str b)
  | tup sq ra =>
    cases h
    rcases Same.tseq R.sub sq with (e | ⟨o, e⟩) | ⟨o, its, n, e, c, _⟩
    · exact .base (.tup e)
    · exact .fTuple e
    · exact .kTuple e c
  | tupx e _ ra => cases h; exact .fTuple (R.sub _ _ e)
  | lst e ra => cases h; exact .base (.lst (R.sub _ _ e))
  | slst sq ra =>
    cases h
    rcases R.sub.seq sq with (e | ⟨o, e⟩) | ⟨o, its, n, e, c, _⟩
    · exact .base (.lst e)
    · exact .base (.frz e)
    · exact .kList e c
  | dct e l ra => cases h; exact .base (.dK (R.sub _ _ e))
  | exc _ _ _ _ => cases h
  | lam _ _ => cases h
  | ref a =>
    have h' : (match mol (M a) with | some _ => some "list" | none => none) = some T := h
    split at h'
    · rename_i xs e
      cases h'
      obtain ⟨vs, h1, _⟩ := R.lst (mol_some e)
      exact .base (.lst h1)
    · cases h'
end
end DL

/-! DL5: isinstance, what is walked, methods. -/
namespace DL
open PySem PySem.Spec L2
open PyProof.Rows hiding St

/-! ### isinstance -/
def isiB (S T : String) : Bool := S == T || (S == "bool" && T == "int")
def dIsi (T : String) (t : DTE) : DTE := fun ρ M Q => t ρ M fun d M1 => ∃ S, tyD M1 d = some S ∧ Q (.bl (isiB S T)) M1
theorem tyD_mem {M : Mp} {d : DL.D} {S : String} (h : tyD M d = some S) : S = "NoneType" ∨ S = "bool" ∨ S = "int" ∨ S = "str" ∨ S = "tuple" ∨ S = "list" ∨ S = "dict" := by
  cases d with
  | ref a =>
    have h' : (match mol (M a) with | some _ => some "list" | none => none) = some S := h
    split at h'
    · cases h'; simp
    · cases h'
  | exc a b => cases h
  | lam a b => cases h
  | _ => cases h; simp
theorem kit_all {T : String} (hT : T = "bool" ∨ T = "int" ∨ T = "str" ∨ T = "tuple" ∨ T = "list" ∨ T = "dict") {S : String} (hS : S = "NoneType" ∨ S = "bool" ∨ S = "int" ∨ S = "str" ∨ S = "tuple" ∨ S = "list" ∨ S = "dict") : L2.kitB S T = some (isiB S T) := by
  rcases hT with rfl | rfl | rfl | rfl | rfl | rfl <;> rcases hS with rfl | rfl | rfl | rfl | rfl | rfl | rfl <;> decide +kernel
section
variable {X : Cx} {Y : KJ X.K} {pos p p' : Pos} {e : Expr} {t : DTE}
theorem de_isi {T : String} {y : Str} (m1 : X.mg "isinstance" = none) (m2 : X.mg y = none) (he : DE X Y e t) (hT : T = "bool" ∨ T = "int" ∨ T = "str" ∨ T = "tuple" ∨ T = "list" ∨ T = "dict" := by simp) (hv : bootBuiltins y = some (.type T) := by decide +kernel)
    (hg : Gl X "isinstance" := by rfl) (hg2 : Gl X y := by rfl) (hn : y ≠ "__name__" := by decide) (hd : (y == ("__debug__" : Str)) = false := by decide)
    (s1 : starEach [e, .Name y p'] X.env = (false, eval e X.env) :: starEach [.Name y p'] X.env := by rfl) (s2 : starEach [.Name y p'] X.env = (false, eval (.Name y p') X.env) :: starEach [] X.env := by rfl)
    (hpl : (backTo pos (starEach [.Name y p'] X.env)).any (·.1) = false := by rfl) : DE X Y (.Call (.Name "isinstance" p) [e, .Name y p'] [] pos) (dIsi T t) := by
  have h2 : PE X (.Name y p') (tC (.ty T)) := pe_bltn hg2 m2 hv rfl hn hd
  refine PE.weak (pe_callB call_isi hg m1 (by decide +kernel) (pa_cons he (pa_cons h2 pa_nil s2) s1) (by decide) (by decide) s1 hpl) ?_
  rintro σ H Q0 ⟨F, M, ρ, Q, rs, rl, q, k⟩
  refine ⟨F, M, ρ, _, rs, rl, q, fun v d F1 M1 H1 s1 rp ⟨S, eS, q1⟩ => ?_⟩
  exact ⟨v, .ty T, _, .type T, _, rfl, .ty T, tyD_x s1.rel rp eS, kit_ty (kit_all hT (tyD_mem eS)), k _ _ F1 M1 H1 s1 (.bl _) q1⟩
end

/-! ### what is walked -/
section
variable {X : Cx} {Y : KJ X.K} {pos p : Pos} {tg e : Expr} {t : DTE}
theorem PI.or {u v : TI} (h1 : PI X tg e u) (h2 : PI X tg e v) : PI X tg e (fun σ H R => u σ H R ∨ v σ H R) :=
  ⟨fun pins s σ H R I q => q.elim (fun q => h1.run pins s σ H R I q) fun q => h2.run pins s σ H R I q⟩
/-- the signs of a text -/
def signs (x : Str) : List DL.D := x.cps.toList.map fun c => .str ⟨#[c]⟩
theorem jw_list {K : PySem.W.Frag} {Y : KJ K} {F : Hp} {a : Addr} {ds : List DL.D} {G : Mp → Prop} (st : ∀ F1 M1 H1, Same F F1 → Rel Y F1 M1 H1 → G M1 → ∃ xs, SqL K H1 a xs ∧ RpAll K F1 xs ds) : JW Y F (Itl K a) ds G := by
  refine ⟨fun F1 M1 H1 s r g => ?_⟩
  obtain ⟨xs, sq, ra⟩ := st F1 M1 H1 s r g
  have W := walk_list (K := K) (a := a) (xs := xs)
  refine ⟨by rw [← ra.length]; exact W.stops H1 sq, fun i d hi => ?_⟩
  obtain ⟨v, hv, rp⟩ := ra.get hi
  have hl : i < xs.length := (List.getElem?_eq_some_iff.mp hv).1
  refine ⟨W.goes i H1 hl sq, fun x H2 y => ?_⟩
  obtain ⟨e, y2⟩ := W.yields i H1 x H2 hl sq y
  rw [hv] at y2
  cases y2
  rw [e]
  exact ⟨F1, Stp.refl r, rp⟩
theorem jw_tup {K : PySem.W.Frag} {Y : KJ K} {F : Hp} {a : Addr} {xs : List V} {ds : List DL.D} (ra : RpAll K F xs ds) (sq : SqT K F a xs) : JW Y F (Itt K a) ds (fun _ => True) := by
  refine ⟨fun F1 M1 H1 s r g => ?_⟩
  have sq' := Same.tseq (s.trans r.sub) sq
  have W := walk_tup (K := K) (a := a) (xs := xs)
  refine ⟨by rw [← ra.length]; exact W.stops H1 sq', fun i d hi => ?_⟩
  obtain ⟨v, hv, rp⟩ := ra.get hi
  have hl : i < xs.length := (List.getElem?_eq_some_iff.mp hv).1
  refine ⟨W.goes i H1 hl sq', fun x H2 y => ?_⟩
  obtain ⟨e, y2⟩ := W.yields i H1 x H2 hl sq' y
  rw [hv] at y2
  cases y2
  rw [e]
  exact ⟨F1, Stp.refl r, rp.mono s⟩
theorem jw_str {K : PySem.W.Frag} {Y : KJ K} {F : Hp} {x : Str} : JW Y F (Its x) (signs x) (fun _ => True) :=
  ⟨fun F1 M1 H1 s r g => ⟨by show x.cps.size ≤ (signs x).length; simp [signs], fun i d hi => by
    unfold signs at hi
    rw [List.getElem?_map, Array.getElem?_toList] at hi
    cases e : x.cps[i]? with
    | none => rw [e] at hi; cases hi
    | some c =>
      rw [e] at hi
      cases hi
      refine ⟨(Array.getElem?_eq_some_iff.mp e).1, fun v H2 ⟨e2, c', h', hv⟩ => ?_⟩
      rw [e] at h'
      cases h'
      subst e2 hv
      exact ⟨F1, Stp.refl r, .str _⟩⟩⟩
/-- over a text, a tuple, a list -/
def dIt (t : DTE) : DTI := fun ρ M R => t ρ M fun d M1 => match d with
  | .str x => R (signs x) (fun _ => True) M1
  | .tup xs => R xs (fun _ => True) M1
  | .tupx xs => R xs (fun _ => True) M1
  | .lst xs => R xs (fun _ => True) M1
  | .slst xs => R xs (fun _ => True) M1
  | .ref a => ∃ xs, M1 a = some (.lst xs) ∧ R xs (fun M => M a = some (.lst xs)) M1
  | _ => False
/-- one walk for each kind of a value that is walked -/
theorem pi_any {te : TE} (he : PE X e te) : PI X tg e (fun σ H R => te σ H fun v H1 => (∃ x, v = .str x ∧ R (Its x) H1) ∨ (∃ a, v = .ref a ∧ (∃ xs, SqT X.K H1 a xs) ∧ R (Itt X.K a) H1) ∨ (∃ a, v = .ref a ∧ (∃ xs, SqL X.K H1 a xs) ∧ R (Itl X.K a) H1)) := by
  constructor
  intro pins s σ H R I q
  refine thn (he.run pins s σ H _ I q) ?_
  rintro u s1 ⟨v, H1, I1, r1, ⟨x, rfl, q1⟩ | ⟨a, rfl, ⟨xs, hq⟩, q1⟩ | ⟨a, rfl, ⟨xs, hq⟩, q1⟩⟩
  · obtain ⟨t, rfl⟩ := r1
    cases ha : x.cps.all (· < 128) with
    | false => exact wpAny_pyIter_wide ha (pi_one (tk := s1.toks) I1 _ (turn_str _ x t "str_iterator" (.inr rfl)) ⟨_, Heap.get?_push_size _ rfl, rfl, rfl⟩ q1)
    | true => exact wpAny_pyIter_ascii ha (pi_one (tk := s1.toks) I1 _ (turn_str _ x t "str_ascii_iterator" (.inl rfl)) ⟨_, Heap.get?_push_size _ rfl, rfl, rfl⟩ q1)
  · cases r1
    obtain ⟨its, rv, p, hz⟩ := I1.tuple hq
    exact wpAny_pyIter_tuple (show s1.heap.IsTuple a its.toArray from p) (pi_one (tk := s1.toks) I1 _ (turn_tuple a _) ⟨_, Heap.get?_push_size _ rfl, rfl, rfl⟩ q1)
  · cases r1
    obtain ⟨its, rv, p, hz⟩ := I1.list hq
    exact wpAny_pyIter_list p.isList (pi_one (tk := s1.toks) I1 _ (turn_list a _) ⟨_, Heap.get?_push_size _ rfl, rfl, rfl⟩ q1)
theorem di_it (he : DE X Y e t) : DI X Y tg e (dIt t) := by
  refine PI.weak (pi_any he) ?_
  rintro σ H R0 ⟨F, M, ρ, R, rs, rl, q, k⟩
  refine ⟨F, M, ρ, _, rs, rl, q, fun v d F1 M1 H1 s1 rp q1 => ?_⟩
  cases d with
  | str x =>
    cases rp
    exact .inl ⟨x, rfl, k _ _ _ F1 M1 H1 s1 jw_str q1⟩
  | tup xs =>
    cases rp with
    | tup sq ra => exact .inr (.inl ⟨_, rfl, ⟨_, Same.tseq s1.rel.sub sq⟩, k _ _ _ F1 M1 H1 s1 (jw_tup ra sq) q1⟩)
  | lst xs =>
    cases rp with
    | lst e1 ra => exact .inr (.inr ⟨_, rfl, ⟨_, SqL.of (s1.rel.sub _ _ e1)⟩, k _ _ _ F1 M1 H1 s1 (jw_list fun F2 M2 H2 s r _ => ⟨_, SqL.of (r.sub _ _ (s _ _ e1)), ra.mono s⟩) q1⟩)
  | slst xs =>
    cases rp with
    | slst e1 ra => exact .inr (.inr ⟨_, rfl, ⟨_, s1.rel.sub.seq e1⟩, k _ _ _ F1 M1 H1 s1 (jw_list fun F2 M2 H2 s r _ => ⟨_, (s.trans r.sub).seq e1, ra.mono s⟩) q1⟩)
  | ref a =>
    obtain ⟨xs, hm, q1⟩ := q1
    cases rp
    obtain ⟨vs, h1, ra⟩ := s1.rel.lst hm
    exact .inr (.inr ⟨_, rfl, ⟨_, SqL.of h1⟩, k _ _ _ F1 M1 H1 s1 (jw_list fun F2 M2 H2 s r g => let ⟨ws, h2, rb⟩ := r.lst g; ⟨ws, SqL.of h2, rb⟩) q1⟩)
  | non => exact q1.elim
  | dct a b => exact q1.elim
  | exc a b => exact q1.elim
  | lam a b => exact q1.elim
  | tupx xs =>
    cases rp with
    | tupx sq _ ra => exact .inr (.inl ⟨_, rfl, ⟨_, .inl (.inr ⟨_, s1.rel.sub _ _ sq⟩)⟩, k _ _ _ F1 M1 H1 s1 (jw_tup ra (.inl (.inr ⟨_, sq⟩))) q1⟩)
  | bl b => exact q1.elim
  | int i => exact q1.elim
/-- over range(n), range(a, b) -/
def rgD (lo : Int) (n : Nat) : List DL.D := (List.range n).map fun i => .int (lo + (i : Nat))
theorem jw_range {K : PySem.W.Frag} {Y : KJ K} {F : Hp} {lo : Int} {n : Nat} : JW Y F (Itr lo n) (rgD lo n) (fun _ => True) :=
  ⟨fun F1 M1 H1 s r g => ⟨by show n ≤ (rgD lo n).length; simp [rgD], fun i d hi => by
    unfold rgD at hi
    rw [List.getElem?_map] at hi
    by_cases h : i < n
    · rw [List.getElem?_range h] at hi
      cases hi
      refine ⟨h, fun v H2 ⟨e2, hv⟩ => ?_⟩
      subst e2 hv
      exact ⟨F1, Stp.refl r, .int _⟩
    · rw [List.getElem?_eq_none (by simpa using h)] at hi
      cases hi⟩⟩
def dRange1 (t : DTE) : DTI := fun ρ M R => t ρ M fun d M1 => ∃ j, d = .int j ∧ -(2 ^ 62) ≤ j ∧ j < 2 ^ 62 ∧ R (rgD 0 j.toNat) (fun _ => True) M1
def dRange2 (t u : DTE) : DTI := fun ρ M R => t ρ M fun d M1 => u ρ M1 fun d' M2 => ∃ i j, d = .int i ∧ d' = .int j ∧ (-(2 ^ 62) ≤ i ∧ i < 2 ^ 62 ∧ -(2 ^ 62) ≤ j ∧ j < 2 ^ 62) ∧ R (rgD i (j - i).toNat) (fun _ => True) M2
theorem di_range1 {u : DTE} (hm : X.mg "range" = none) (he : DE X Y e u) (hg : Gl X "range" := by rfl) (hs : starEach [e] X.env = [(false, eval e X.env)] := by rfl) : DI X Y tg (.Call (.Name "range" p) [e] [] pos) (dRange1 u) := by
  refine PI.weak (pi_range1 hg hm (pa_cons he pa_nil hs) hs) ?_
  rintro σ H R0 ⟨F, M, ρ, R, rs, rl, q, k⟩
  refine ⟨F, M, ρ, _, rs, rl, q, fun v d F1 M1 H1 s1 rp ⟨j, ed, h1, h2, q1⟩ => ?_⟩
  subst ed
  cases rp
  exact ⟨j, rfl, h1, h2, k _ _ _ F1 M1 H1 s1 jw_range q1⟩
theorem di_range2 {e2 : Expr} {u u2 : DTE} (hm : X.mg "range" = none) (he : DE X Y e u) (he2 : DE X Y e2 u2) (hg : Gl X "range" := by rfl) (hs : starEach [e, e2] X.env = [(false, eval e X.env), (false, eval e2 X.env)] := by rfl) (hs2 : starEach [e2] X.env = [(false, eval e2 X.env)] := by rfl) :
    DI X Y tg (.Call (.Name "range" p) [e, e2] [] pos) (dRange2 u u2) := by
  refine PI.weak (pi_range2 hg hm (pa_cons he (pa_cons he2 pa_nil hs2) (by rw [hs, hs2])) hs hs2) ?_
  rintro σ H R0 ⟨F, M, ρ, R, rs, rl, q, k⟩
  refine ⟨F, M, ρ, _, rs, rl, q, fun v d F1 M1 H1 s1 rp q1 => ?_⟩
  refine ⟨F1, M1, ρ, _, rs.mono s1.same, s1.rel, q1, fun v2 d2 F2 M2 H2 s2 rp2 ⟨i, j, e1, e2, hb, q2⟩ => ?_⟩
  subst e1 e2
  cases rp
  cases rp2
  exact ⟨i, j, rfl, hb, k _ _ _ F2 M2 H2 (s1.trans s2) jw_range q2⟩
end
end DL

/-! DL6: stores by place, methods of lists and texts, repr, list(range), zip. -/
namespace DL
open PySem PySem.Spec L2
open PyProof.Rows hiding St

/-! ### xs[i] = v -/
def rSetD : DTSet := fun o i v M Q => ∃ a xs k j, o = .ref a ∧ i = .int k ∧ M a = some (.lst xs) ∧ ixN xs.length k = some j ∧ Q (mu M a (.lst (xs.set j v)))
section
variable {X : Cx} {Y : KJ X.K} {pos : Pos}
theorem set_lstD : PSet X (canSet Y rSetD) := by
  refine PSet.weak set_list ?_
  rintro o i v H Q0 ⟨F, M, od, id, vd, Q, r1, r2, r3, rl, ⟨a, xs, k, j, e1, e2, hm, hj, q⟩, kk⟩
  subst e1 e2
  cases r1
  cases r2
  obtain ⟨vs, h1, ra⟩ := rl.lst hm
  exact ⟨a, vs, k, j, rfl, rfl, h1, by rw [ra.length]; exact hj, kk F _ _ (rl.set hm (xs := (vs.set j v)) (ds := (xs.set j vd)) (ra.set r3 j)) q⟩

/-! ### methods of lists -/
def canMt {K : PySem.W.Frag} (Y : KJ K) (r : DL.D → List DL.D → Mp → DK → Prop) : V → List V → Hp → VK → Prop := fun x vs H Q0 => ∃ F M d ds Q, Rp K F x d ∧ RpAll K F vs ds ∧ Rel Y F M H ∧ r d ds M Q ∧
  ∀ v z F' M' H', Stp Y F M H F' M' H' → Rp K F' v z → Q z M' → Q0 v H'
variable {o e : Expr} {es : List Expr} {to : DTE} {ta : DTA} {name : Str} {apos cpos : Pos} {id : String} {r : DL.D → List DL.D → Mp → DK → Prop}
def dBM (r : DL.D → List DL.D → Mp → DK → Prop) (to : DTE) (ta : DTA) : DTE := fun ρ M Q => to ρ M fun x M1 => (lstOf M1 x).isSome = true ∧ ta ρ M1 fun ds M2 => r x ds M2 Q
theorem ty_list {K : PySem.W.Frag} {Y : KJ K} {F : Hp} {M : Mp} {H : Hp} {v : V} {d : DL.D} (R : Rel Y F M H) (rp : Rp K F v d) (h : (lstOf M d).isSome = true) : tyV K "list" v H := by
  obtain ⟨ds, e⟩ := Option.isSome_iff_exists.mp h
  obtain ⟨a, xs, rfl, h1, _⟩ := lstOf_rp R rp e
  exact .inl ⟨rfl, _, h1⟩
theorem de_bm (slot : Slot "list" name id) (hty : typeOf (.builtin id) = pure (.type "method_descriptor")) (hm : MtR X id (canMt Y r)) (ho : DE X Y o to) (ha : DA X Y (e :: es) ta)
    (hbase : attributeBase o name X.env (eval o X.env) = eval o X.env := by rfl)
    (hfew : ((backTo cpos (starEach (e :: es) X.env)).all (fun x => !x.1) && (backToKw cpos (keywordEach [] X.env)).all (fun x => x.1.isSome)
      && decide ((e :: es).length + ([] : List Keyword).length + (if ([] : List Keyword).isEmpty then 0 else 1) < 30)) = true := by rfl)
    (hline : (apos.endLine == cpos.line) = true := by rfl) (hs : starEach (e :: es) X.env = (false, eval e X.env) :: starEach es X.env := by rfl) (hplain : (backTo cpos (starEach es X.env)).any (·.1) = false := by rfl) :
    DE X Y (.Call (.Attribute o name apos) (e :: es) [] cpos) (dBM r to ta) := by
  refine PE.weak (pe_bm PySem.F.plainAttrs_list slot hty hm ho ha hbase hfew hline hs hplain) ?_
  rintro σ H Q0 ⟨F, M, ρ, Q, rs, rl, q, k⟩
  refine ⟨F, M, ρ, _, rs, rl, q, fun v d F1 M1 H1 s1 rp1 ⟨hl, q1⟩ => ⟨ty_list s1.rel rp1 hl, ?_⟩⟩
  exact ⟨F1, M1, ρ, _, rs.mono s1.same, s1.rel, q1, fun vs ds F2 M2 H2 s2 rp2 q2 => ⟨F2, M2, d, ds, Q, rp1.mono s2.same, rp2, s2.rel, q2, fun v z F3 M3 H3 s3 => k v z F3 M3 H3 ((s1.trans s2).trans s3)⟩⟩
def dBM0 (r : DL.D → List DL.D → Mp → DK → Prop) (to : DTE) : DTE := fun ρ M Q => to ρ M fun x M1 => (lstOf M1 x).isSome = true ∧ r x [] M1 Q
theorem de_bm0 (slot : Slot "list" name id) (hty : typeOf (.builtin id) = pure (.type "method_descriptor")) (hm : MtR X id (canMt Y r)) (ho : DE X Y o to)
    (hbase : attributeBase o name X.env (eval o X.env) = eval o X.env := by rfl) (hline : (apos.endLine == cpos.line) = true := by rfl) : DE X Y (.Call (.Attribute o name apos) [] [] cpos) (dBM0 r to) := by
  refine PE.weak (pe_bm0 PySem.F.plainAttrs_list slot hty hm ho hbase hline) ?_
  rintro σ H Q0 ⟨F, M, ρ, Q, rs, rl, q, k⟩
  exact ⟨F, M, ρ, _, rs, rl, q, fun v d F1 M1 H1 s1 rp1 ⟨hl, q1⟩ => ⟨ty_list s1.rel rp1 hl, F1, M1, d, [], Q, rp1, .nil, s1.rel, q1, fun v z F3 M3 H3 s3 => k v z F3 M3 H3 (s1.trans s3)⟩⟩
theorem of_MtM {id : String} {r : V → List V → Hp → VK → Prop} (h : MtM X id r) : MtR X id r := h
def rAppD : DL.D → List DL.D → Mp → DK → Prop := fun x ds M Q => ∃ a y xs, x = .ref a ∧ ds = [y] ∧ M a = some (.lst xs) ∧ xs.length < sizeLine ∧ Q .non (mu M a (.lst (xs ++ [y])))
theorem md_append : MtR X "list.append" (canMt Y rAppD) := by
  intro pins s σ H x vs v us Q0 I rx rv ⟨F, M, d, ds, Q, r1, r2, rl, ⟨a, y, xs, e1, e2, hm, hz, q⟩, k⟩
  subst e1 e2
  cases r1
  obtain ⟨vy, rfl, ry⟩ := rp1 r2
  obtain ⟨ws, h1, ra⟩ := rl.lst hm
  exact mt_append pins s σ H _ _ v us Q0 I rx rv ⟨a, ws, vy, rfl, rfl, h1, by rw [ra.length]; exact hz, k _ .non F _ _ (rl.set hm (xs := (ws ++ [vy])) (ds := (xs ++ [y])) (ra.append (.cons ry .nil))) .non q⟩
def dAppend (to te : DTE) : DTE := dBM rAppD to (dCons te dNil)
theorem de_append {te : DTE} (ho : DE X Y o to) (he : DE X Y e te) (hs : starEach [e] X.env = (false, eval e X.env) :: starEach [] X.env := by rfl) (hbase : attributeBase o "append" X.env (eval o X.env) = eval o X.env := by rfl) (hline : (apos.endLine == cpos.line) = true := by rfl)
    (hfew : ((backTo cpos (starEach [e] X.env)).all (fun x => !x.1) && (backToKw cpos (keywordEach [] X.env)).all (fun x => x.1.isSome)
      && decide (([e] : List Expr).length + ([] : List Keyword).length + (if ([] : List Keyword).isEmpty then 0 else 1) < 30)) = true := by rfl) :
    DE X Y (.Call (.Attribute o "append" apos) [e] [] cpos) (dAppend to te) :=
  de_bm PySem.F.slot_list_append PySem.F.type_list_append md_append ho (da_cons he da_nil hs) hbase hfew hline hs rfl
def rExtD : DL.D → List DL.D → Mp → DK → Prop := fun x ds M Q => ∃ a y xs ys, x = .ref a ∧ ds = [y] ∧ M a = some (.lst xs) ∧ lstIn M y = some ys ∧ xs.length + ys.length ≤ sizeLine ∧ Q .non (mu M a (.lst (xs ++ ys)))
theorem md_extend : MtR X "list.extend" (canMt Y rExtD) := by
  intro pins s σ H x vs v us Q0 I rx rv ⟨F, M, d, ds, Q, r1, r2, rl, ⟨a, y, xs, ys, e1, e2, hm, hy, hz, q⟩, k⟩
  subst e1 e2
  cases r1
  obtain ⟨vy, rfl, ry⟩ := rp1 r2
  obtain ⟨ws, h1, ra⟩ := rl.lst hm
  obtain ⟨b, zs, rfl, h2, rb⟩ := lstIn_rp rl ry hy
  exact mt_extend pins s σ H _ _ v us Q0 I rx rv ⟨a, b, ws, zs, rfl, rfl, h1, h2, by rw [ra.length, rb.length]; exact hz, k _ .non F _ _ (rl.set hm (xs := (ws ++ zs)) (ds := (xs ++ ys)) (ra.append rb)) .non q⟩
def dExtend (to te : DTE) : DTE := dBM rExtD to (dCons te dNil)
theorem de_extend {te : DTE} (ho : DE X Y o to) (he : DE X Y e te) (hs : starEach [e] X.env = (false, eval e X.env) :: starEach [] X.env := by rfl) (hbase : attributeBase o "extend" X.env (eval o X.env) = eval o X.env := by rfl) (hline : (apos.endLine == cpos.line) = true := by rfl)
    (hfew : ((backTo cpos (starEach [e] X.env)).all (fun x => !x.1) && (backToKw cpos (keywordEach [] X.env)).all (fun x => x.1.isSome)
      && decide (([e] : List Expr).length + ([] : List Keyword).length + (if ([] : List Keyword).isEmpty then 0 else 1) < 30)) = true := by rfl) :
    DE X Y (.Call (.Attribute o "extend" apos) [e] [] cpos) (dExtend to te) :=
  de_bm PySem.F.slot_list_extend PySem.F.type_list_extend md_extend ho (da_cons he da_nil hs) hbase hfew hline hs rfl
def rPopD : DL.D → List DL.D → Mp → DK → Prop := fun x ds M Q => ∃ a xs y, x = .ref a ∧ ds = [] ∧ M a = some (.lst xs) ∧ xs[xs.length - 1]? = some y ∧ Q y (mu M a (.lst xs.dropLast))
theorem md_pop : MtR X "list.pop" (canMt Y rPopD) := by
  intro pins s σ H x vs v us Q0 I rx rv ⟨F, M, d, ds, Q, r1, r2, rl, ⟨a, xs, y, e1, e2, hm, hy, q⟩, k⟩
  subst e1 e2
  cases r1
  cases r2
  obtain ⟨ws, h1, ra⟩ := rl.lst hm
  obtain ⟨vy, h2, ry⟩ := ra.get hy
  have st := rl.set hm (xs := ws.dropLast) (ds := xs.dropLast) ra.dropLast
  exact mt_pop pins s σ H _ _ v us Q0 I rx rv ⟨a, ws, vy, rfl, rfl, h1, by rw [ra.length]; exact h2, k _ y F _ _ st ry q⟩
def dPop (to : DTE) : DTE := dBM0 rPopD to
theorem de_pop (ho : DE X Y o to) (hbase : attributeBase o "pop" X.env (eval o X.env) = eval o X.env := by rfl) (hline : (apos.endLine == cpos.line) = true := by rfl) : DE X Y (.Call (.Attribute o "pop" apos) [] [] cpos) (dPop to) :=
  de_bm0 PySem.F.slot_list_pop PySem.F.type_list_pop md_pop ho hbase hline
def rPopAtD : DL.D → List DL.D → Mp → DK → Prop := fun x ds M Q => ∃ a xs i j y, x = .ref a ∧ ds = [.int i] ∧ M a = some (.lst xs) ∧ ixN xs.length i = some j ∧ -(2 ^ 62) < i ∧ i < 2 ^ 62 ∧ xs[j]? = some y ∧ Q y (mu M a (.lst (xs.eraseIdx j)))
theorem md_popAt : MtR X "list.pop" (canMt Y rPopAtD) := by
  intro pins s σ H x vs v us Q0 I rx rv ⟨F, M, d, ds, Q, r1, r2, rl, ⟨a, xs, i, j, y, e1, e2, hm, hj, h3, h4, hy, q⟩, k⟩
  subst e1 e2
  cases r1
  obtain ⟨vi, rfl, ri⟩ := rp1 r2
  cases ri
  obtain ⟨ws, h1, ra⟩ := rl.lst hm
  obtain ⟨vy, h2, ry⟩ := ra.get hy
  have st := rl.set hm (xs := (ws.eraseIdx j)) (ds := (xs.eraseIdx j)) (ra.eraseIdx j)
  have hj' := ixN_seq hj
  exact mt_popAt pins s σ H _ _ v us Q0 I rx rv ⟨a, ws, i, j, vy, rfl, rfl, h1, by omega, by omega, by rw [ra.length]; exact hj'.1, h2, k _ y F _ _ st ry q⟩
def dPopAt (to te : DTE) : DTE := dBM rPopAtD to (dCons te dNil)
theorem de_popAt {te : DTE} (ho : DE X Y o to) (he : DE X Y e te) (hs : starEach [e] X.env = (false, eval e X.env) :: starEach [] X.env := by rfl) (hbase : attributeBase o "pop" X.env (eval o X.env) = eval o X.env := by rfl) (hline : (apos.endLine == cpos.line) = true := by rfl)
    (hfew : ((backTo cpos (starEach [e] X.env)).all (fun x => !x.1) && (backToKw cpos (keywordEach [] X.env)).all (fun x => x.1.isSome)
      && decide (([e] : List Expr).length + ([] : List Keyword).length + (if ([] : List Keyword).isEmpty then 0 else 1) < 30)) = true := by rfl) :
    DE X Y (.Call (.Attribute o "pop" apos) [e] [] cpos) (dPopAt to te) :=
  de_bm PySem.F.slot_list_pop PySem.F.type_list_pop md_popAt ho (da_cons he da_nil hs) hbase hfew hline hs rfl

/-! ### texts' methods, -x, ** -/
def dUpper (to : DTE) : DTE := fun ρ M Q => to ρ M fun x M1 => ∃ a, x = .str a ∧ a.length ≤ 5592405 ∧ Q (.str (Txt.upper a)) M1
theorem de_upper (ho : DE X Y o to) (hbase : attributeBase o "upper" X.env (eval o X.env) = eval o X.env := by rfl) (hline : (apos.endLine == cpos.line) = true := by rfl) : DE X Y (.Call (.Attribute o "upper" apos) [] [] cpos) (dUpper to) := by
  refine PE.weak (pe_upper ho hbase hline) ?_
  rintro σ H Q0 ⟨F, M, ρ, Q, rs, rl, q, k⟩
  refine ⟨F, M, ρ, _, rs, rl, q, fun v d F1 M1 H1 s1 rp1 ⟨a, e1, hl, q1⟩ => ?_⟩
  subst e1
  cases rp1
  exact ⟨⟨a, rfl⟩, a, rfl, rfl, hl, k _ _ F1 M1 H1 s1 (.str _) q1⟩
def dJoin (to te : DTE) : DTE := fun ρ M Q => to ρ M fun x M1 => ∃ a, x = .str a ∧ te ρ M1 fun y M2 => ∃ ss : List Str, seqOf M2 y = some (ss.map D.str) ∧ (ss.map (·.length)).sum + ss.length * a.length ≤ 16777216 ∧ Q (.str (Txt.join a ss)) M2
theorem de_join {te : DTE} (ho : DE X Y o to) (he : DE X Y e te) (hs : starEach [e] X.env = [(false, eval e X.env)] := by rfl) (hbase : attributeBase o "join" X.env (eval o X.env) = eval o X.env := by rfl) (hline : (apos.endLine == cpos.line) = true := by rfl) :
    DE X Y (.Call (.Attribute o "join" apos) [e] [] cpos) (dJoin to te) := by
  refine PE.weak (pe_join ho he hs hbase hline) ?_
  rintro σ H Q0 ⟨F, M, ρ, Q, rs, rl, q, k⟩
  refine ⟨F, M, ρ, _, rs, rl, q, fun v d F1 M1 H1 s1 rp1 ⟨a, e1, q1⟩ => ?_⟩
  subst e1
  cases rp1
  refine ⟨⟨a, rfl⟩, F1, M1, ρ, _, rs.mono s1.same, s1.rel, q1, fun v2 d2 F2 M2 H2 s2 rp2 ⟨ss, e2, hz, q2⟩ => ?_⟩
  obtain ⟨p, ws, rfl, h1, ra⟩ := seqOf_rp s2.rel rp2 e2
  rw [rp_strs ra] at h1
  exact ⟨a, p, ss, rfl, rfl, h1, hz, k _ _ F2 M2 H2 (s1.trans s2) (.str _) q2⟩
def dNeg (te : DTE) : DTE := fun ρ M Q => te ρ M fun x M1 => ∃ i, x = .int i ∧ Q (.int (-i)) M1
theorem de_neg {te : DTE} (he : DE X Y e te) : DE X Y (.UnaryOp .USub e pos) (dNeg te) := by
  refine PE.weak (pe_un un_neg he) ?_
  rintro σ H Q0 ⟨F, M, ρ, Q, rs, rl, q, k⟩
  refine ⟨F, M, ρ, _, rs, rl, q, fun v d F1 M1 H1 s1 rp1 ⟨i, e1, q1⟩ => ?_⟩
  subst e1
  cases rp1
  exact ⟨i, rfl, k _ _ F1 M1 H1 s1 (.int _) q1⟩
def rPowD : RD2 := fun x y M Q => ∃ i j, x = .int i ∧ y = .int j ∧ ((0 ≤ j ∧ j ≤ 1000000 ∧ i.natAbs < 2 ^ 64) ∨ (0 ≤ j ∧ (Builtin.Int.intBits i : Int) * j ≤ 2 ^ 27)) ∧ Q (.int (i ^ j.toNat)) M
theorem od_pows : OpD X Y (binaryOp .Pow) rPowD := by
  intro pins s σ H x y v u Q0 I rx ry ⟨F, M, d, e, Q, r1, r2, rl, ⟨i, j, e1, e2, c, q⟩, k⟩
  rcases c with c | c
  · exact od_pow pins s σ H x y v u Q0 I rx ry ⟨F, M, d, e, Q, r1, r2, rl, ⟨i, j, e1, e2, c, q⟩, k⟩
  · exact od_powW pins s σ H x y v u Q0 I rx ry ⟨F, M, d, e, Q, r1, r2, rl, ⟨i, j, e1, e2, c, q⟩, k⟩

/-! ### repr -/
mutual
theorem py_noDict : ∀ (d : DL.D) (p : PyData), d.py = some p → p.hasDict = false
  | .non, _, h => by simp only [D.py] at h; cases h; rfl
  | .bl b, _, h => by simp only [D.py] at h; cases h; rfl
  | .int i, _, h => by simp only [D.py] at h; cases h; rfl
  | .str x, _, h => by simp only [D.py] at h; cases h; rfl
  | .ref a, _, h => by simp only [D.py] at h; cases h
  | .tup xs, _, h => by
    simp only [D.py] at h
    split at h
    · rename_i ps e; cases h; simp only [PyData.hasDict]; exact pyAll_noDict xs ps e
    · cases h
  | .tupx xs, _, h => by
    simp only [D.py] at h
    split at h
    · rename_i ps e; cases h; simp only [PyData.hasDict]; exact pyAll_noDict xs ps e
    · cases h
  | .lam _ _, _, h => by simp only [D.py] at h; cases h
  | .lst xs, _, h => by
    simp only [D.py] at h
    split at h
    · rename_i ps e; cases h; simp only [PyData.hasDict]; exact pyAll_noDict xs ps e
    · cases h
  | .slst xs, _, h => by
    simp only [D.py] at h
    split at h
    · rename_i ps e; cases h; simp only [PyData.hasDict]; exact pyAll_noDict xs ps e
    · cases h
theorem pyAll_noDict : ∀ (ds : List DL.D) (ps : List PyData), pyAll ds = some ps → PyData.hasDictAll ps = false
  | [], _, h => by simp only [pyAll] at h; cases h; rfl
  | d :: ds, _, h => by
    simp only [pyAll] at h
    split at h
    · rename_i p ps e1 e2
      cases h
      simp only [PyData.hasDictAll, py_noDict d p e1, pyAll_noDict ds ps e2, Bool.or_self]
    · cases h
end
theorem pyM_noDict {M : Mp} {d : DL.D} {p : PyData} (h : pyM M d = some p) : p.hasDict = false := by
  unfold pyM at h
  split at h
  · split at h
    · split at h
      · rename_i ps e
        cases h
        simp only [PyData.hasDict]
        exact pyAll_noDict _ _ e
      · cases h
    · cases h
  · exact py_noDict _ _ h
def rReprD : RDL := fun ds M Q => ∃ d p, ds = [d] ∧ pyM M d = some p ∧ p.showable = true ∧ p.depth ≤ 62 ∧ p.shown.length ≤ sizeLine ∧ Q (.str p.shown) M
theorem cd_repr {n : Nat} (hr : Room n X.A) (gu : X.A.guards = some []) : CallD X Y (.builtin "repr") rReprD := by
  intro pins s σ H vs us Q0 I r ⟨F, M, ds, Q, rp, rl, ⟨d, p, e, e1, h1, h2, h3, q⟩, k⟩
  subst e
  obtain ⟨v, rfl, r1⟩ := rp1 rp
  obtain ⟨u, rfl, ru⟩ := vals1 r
  obtain ⟨as, rd⟩ := Dp.reads I p v u (pyM_dp rl r1 e1) ru
  have nd := pyM_noDict e1
  have fin : ∀ (h' : Heap) (t tk : Tok), (∀ b o, s.heap.get? b = some o → h'.get? b = some o) → EP X pins σ Q0 (.str p.shown t) { s with heap := h', toks := tk } :=
    fun h' t tk hk => ⟨.str p.shown, H, I.kept hk, ⟨t, rfl⟩, k _ _ F M H (Stp.refl rl) (.str _) q⟩
  have un := hr.units
  cases rd with
  | none => exact PySem.P.repr_of_none (fin s.heap _ _ fun _ _ z => z)
  | bool b => exact PySem.P.repr_of_bool (fin s.heap _ _ fun _ _ z => z)
  | int i t => exact PySem.P.repr_of_int (by simpa [PyData.showable] using h1) (fin s.heap _ _ fun _ _ z => z)
  | str x t => exact PySem.P.repr_of_str (fin s.heap _ _ fun _ _ z => z) h3
  | list a1 a2 a3 a4 => exact PySem.repr_of_reads' (.list a1 a2 a3 a4) h1 (fun z => by rw [nd] at z; cases z) gu (by omega) (fun _ _ z => z) (fun h' u tk hk => fin h' u tk hk) h3
  | tuple a1 a2 a3 a4 => exact PySem.repr_of_reads' (.tuple a1 a2 a3 a4) h1 (fun z => by rw [nd] at z; cases z) gu (by omega) (fun _ _ z => z) (fun h' u tk hk => fin h' u tk hk) h3
  | dict => simp [PyData.hasDict] at nd
end
end DL

/-! DL7: zip, list(range), list(text). -/
namespace DL
open PySem PySem.Spec L2
open PyProof.Rows hiding St

section
variable {X : Cx} {Y : KJ X.K} {pos p tpos : Pos} {e e2 : Expr} {t u : DTE} {elts : List Expr} {kk : Nat}
/-! ### zip of two lists -/
def pairs (xs ys : List DL.D) : List DL.D := (xs.zip ys).map fun p => .tup [p.1, p.2]
theorem pairs_get {xs ys : List DL.D} {i : Nat} {d : DL.D} (h : (pairs xs ys)[i]? = some d) : ∃ x y, xs[i]? = some x ∧ ys[i]? = some y ∧ d = .tup [x, y] := by
  unfold pairs at h
  rw [List.getElem?_map] at h
  cases e : (xs.zip ys)[i]? with
  | none => rw [e] at h; cases h
  | some q =>
    rw [e] at h
    cases h
    rw [List.getElem?_zip_eq_some] at e
    exact ⟨q.1, q.2, e.1, e.2, rfl⟩
theorem jw_pair {K : PySem.W.Frag} {Y : KJ K} {F F1 : Hp} {M1 : Mp} {H1 H2 : Hp} {x y : V} {d d' : DL.D} {T : Addr} (s : Same F F1) (r : Rel Y F1 M1 H1) (h1 : Rp K F1 x d) (h2 : Rp K F1 y d') (hT : H1 T = none) (e : H2 = upd H1 T (.tup [x, y])) :
    ∃ F2, Stp Y F1 M1 H1 F2 M1 H2 ∧ Rp K F2 (.ref T) (.tup [d, d']) := by
  subst e
  have st := r.newF hT (.tup [x, y])
  exact ⟨_, st, .tup (.inl (.inl upd_same)) (.cons (h1.mono st.same) (.cons (h2.mono st.same) .nil))⟩
def dZipL (t u : DTE) : DTI := fun ρ M R => t ρ M fun d M1 => u ρ M1 fun d' M2 => ∃ xs ys, lstOf M2 d = some xs ∧ lstOf M2 d' = some ys ∧ R (pairs xs ys) (fun M => lstOf M d = some xs ∧ lstOf M d' = some ys) M2
theorem di_zipL (hm : X.mg "zip" = none) (he : DE X Y e t) (he2 : DE X Y e2 u) (hg : Gl X "zip" := by rfl) (hs : starEach [e, e2] X.env = (false, eval e X.env) :: starEach [e2] X.env := by rfl) (hs2 : starEach [e2] X.env = (false, eval e2 X.env) :: starEach [] X.env := by rfl)
    (hpl : (backTo pos (starEach [e2] X.env)).any (·.1) = false := by rfl) : DI X Y (.Tuple elts kk tpos) (.Call (.Name "zip" p) [e, e2] [] pos) (dZipL t u) := by
  refine PI.weak (pi_zip hg hm (pa_cons he (pa_cons he2 pa_nil hs2) hs) hs hpl) ?_
  rintro σ H R0 ⟨F, M, ρ, R, rs, rl, q, k⟩
  refine ⟨F, M, ρ, _, rs, rl, q, fun v d F1 M1 H1 s1 rp1 q1 => ?_⟩
  refine ⟨F1, M1, ρ, _, rs.mono s1.same, s1.rel, q1, fun v2 d2 F2 M2 H2 s2 rp2 ⟨xs, ys, ex, ey, q2⟩ => ?_⟩
  have r1 := rp1.mono s2.same
  obtain ⟨a, vs, rfl, h1, _⟩ := lstOf_rp s2.rel r1 ex
  obtain ⟨b, ws, rfl, h2, _⟩ := lstOf_rp s2.rel rp2 ey
  refine ⟨a, b, vs, ws, rfl, h1, h2, k _ (pairs xs ys) (fun M => lstOf M d = some xs ∧ lstOf M d2 = some ys) F2 M2 H2 (s1.trans s2) ⟨fun F3 M3 H3 s3 r3 g => ?_⟩ q2⟩
  obtain ⟨a', vs', ea, g1, ra⟩ := lstOf_rp r3 (r1.mono s3) g.1
  obtain ⟨b', ws', eb, g2, rb⟩ := lstOf_rp r3 (rp2.mono s3) g.2
  cases ea
  cases eb
  have W := walk_zip (K := X.K) (a := a) (b := b) (xs := vs') (ys := ws') rfl
  have hl : (pairs xs ys).length = min vs'.length ws'.length := by unfold pairs; rw [List.length_map, List.length_zip, ra.length, rb.length]
  refine ⟨by rw [hl]; exact W.stops H3 ⟨g1, g2⟩, fun i dd hi => ?_⟩
  have hlt : i < min vs'.length ws'.length := by rw [← hl]; exact (List.getElem?_eq_some_iff.mp hi).1
  obtain ⟨x, y, hx, hy, rfl⟩ := pairs_get hi
  refine ⟨W.goes i H3 hlt ⟨g1, g2⟩, fun vv H4 yy => ?_⟩
  obtain ⟨T, x1, y1, rfl, hT, eH, hx1, hy1⟩ := W.yields i H3 vv H4 hlt ⟨g1, g2⟩ yy
  obtain ⟨vx, ex1, rx⟩ := ra.get hx
  obtain ⟨vy, ey1, ry⟩ := rb.get hy
  have hx1 : vs'[i]? = some x1 := hx1
  have hy1 : ws'[i]? = some y1 := hy1
  rw [ex1] at hx1
  rw [ey1] at hy1
  cases hx1
  cases hy1
  exact jw_pair s3 r3 rx ry hT eH

/-! ### zip of two texts -/
def ItzS (x y : Str) : It := ⟨fun i _ => i < x.cps.size ∧ i < y.cps.size,
  fun i H v H' => ∃ T cx cy, v = .ref T ∧ H T = none ∧ H' = upd H T (.tup [.str ⟨#[cx]⟩, .str ⟨#[cy]⟩]) ∧ x.cps[i]? = some cx ∧ y.cps[i]? = some cy,
  fun i _ => i = min x.cps.size y.cps.size⟩
theorem turn_zipS {P : Program} {w : World} {K : PySem.W.Frag} {z TI TO i1 i2 : Addr} {x y : Str} {t1 t2 : Tok} (S : ZipSep2 z TI TO i1 i2 [i1] [i2]) :
    Turn P w K (.Tuple elts kk tpos) (ItzS x y) [z, TI, TO, i1, i2] z (fun i h => IsZip h z TI TO .none ∧ IsTupOf2 h TI (.ref i1) (.ref i2) ∧ (∃ a b, IsTupOf2 h TO a b) ∧ h.IsStrIter i1 (strIterType x) x t1 i ∧ h.IsStrIter i2 (strIterType y) y t2 i) where
  mem := by simp
  obj := fun i h st c hc => by
    obtain ⟨hz, hTI, ⟨a, b, hTO⟩, ⟨o1, e1, _, d1⟩, ⟨o2, e2, _, d2⟩⟩ := st
    have e' : c = z ∨ c = TI ∨ c = TO ∨ c = i1 ∨ c = i2 := by simpa using hc
    rcases e' with q | q | q | q | q
    · rw [q]; exact ⟨_, hz, fun v q => nomatch q⟩
    · rw [q]; exact ⟨_, hTI, fun v q => nomatch q⟩
    · rw [q]; exact ⟨_, hTO, fun v q => nomatch q⟩
    · rw [q]; exact ⟨o1, e1, fun v q => by rw [d1] at q; cases q⟩
    · rw [q]; exact ⟨o2, e2, fun v q => by rw [d2] at q; cases q⟩
  keep := fun i h h' st kp => by
    obtain ⟨hz, hTI, ⟨a, b, hTO⟩, ⟨o1, e1, c1⟩, ⟨o2, e2, c2⟩⟩ := st
    exact ⟨kp z (by simp) _ hz, kp TI (by simp) _ hTI, ⟨a, b, kp TO (by simp) _ hTO⟩, ⟨o1, kp i1 (by simp) o1 e1, c1⟩, ⟨o2, kp i2 (by simp) o2 e2, c2⟩⟩
  item := by
    intro X hP hw hK hc i pins s σ H E I hf st hg
    subst hP hw hK
    obtain ⟨hz, hTI, ⟨a0, b0, hTO⟩, h1, h2⟩ := st
    have D1 := Draws.text (prog := X.prog) (w := X.w) (A := X.A.in1) (I.ok.hd hc) i1 x t1
    have D2 := Draws.text (prog := X.prog) (w := X.w) (A := X.A.in1) (I.ok.hd hc) i2 y t2
    have hzl : z < s.heap.objs.size := Heap.lt_size hz
    refine wpAny_pyNext_zipD2_item S D1 D2 hz hTI hTO h1 h2 hg.1 hg.2 fun v1 v2 h' tk p1 p2 z' TO' h1' h2' hT hsz hk => ?_
    obtain ⟨cx, u1, hx, rfl⟩ := p1
    obtain ⟨cy, u2, hy, rfl⟩ := p2
    refine ⟨_, rfl, wpAny_letOwnedTupleGo_zip (s := { s with heap := h', toks := tk }) z' fun h'' z'' sb => ?_⟩
    have hT2 : IsTupOf2 h'' s.heap.objs.size (.str ⟨#[cx]⟩ u1) (.str ⟨#[cy]⟩ u2) := (sb.2 _ (Nat.ne_of_gt hzl)).trans hT
    have new : ObjOk X.prog X.w (upd H s.heap.objs.size (.tup [.str ⟨#[cx]⟩, .str ⟨#[cy]⟩])) h'' s.heap.objs.size (.tup [.str ⟨#[cx]⟩, .str ⟨#[cy]⟩]) :=
      ⟨by show 2 ≤ sizeLine; decide, [.str ⟨#[cx]⟩ u1, .str ⟨#[cy]⟩ u2], .cons ⟨u1, rfl⟩ (.cons ⟨u2, rfl⟩ .nil), ⟨_, hT2, rfl, _, rfl⟩⟩
    have I1 : Inv X pins σ (upd H s.heap.objs.size (.tup [.str ⟨#[cx]⟩, .str ⟨#[cy]⟩])) { s with heap := h'', toks := tk } :=
      I.turnedNew (t' := tk) (ch := [z, TI, TO, i1, i2]) (fun c o hb q => (sb.2 c (fun q' => hb (by simp [q']))).trans (hk c o (fun q' => hb (by simp [q'])) (fun q' => hb (by simp [q'])) (fun q' => hb (by simp [q'])) (fun q' => hb (by simp [q'])) q)) hf (Nat.le_refl _) new
    refine ⟨.ref s.heap.objs.size, _, I1, rfl, ⟨_, cx, cy, rfl, I.hok.fresh (Nat.le_refl _), rfl, hx, hy⟩, ⟨z'', ?_, ⟨_, _, (sb.2 _ S.TOz).trans TO'⟩, ?_, ?_⟩, fun c hcm => ?_⟩
    · exact (sb.2 _ S.TIz).trans (hk _ _ S.TIz S.TITO S.TIi1 S.TIi2 hTI)
    · obtain ⟨o1, e1, c1⟩ := h1'
      exact ⟨o1, (sb.2 _ (fun q => S.zi1 q.symm)).trans e1, c1⟩
    · obtain ⟨o2, e2, c2⟩ := h2'
      exact ⟨o2, (sb.2 _ (fun q => S.zi2 q.symm)).trans e2, c2⟩
    · have hlt : c < s.heap.objs.size := by
        have e' : c = z ∨ c = TI ∨ c = TO ∨ c = i1 ∨ c = i2 := by simpa using hcm
        rcases e' with q | q | q | q | q
        · rw [q]; exact hzl
        · rw [q]; exact Heap.lt_size hTI
        · rw [q]; exact Heap.lt_size hTO
        · rw [q]; obtain ⟨_, e1, _⟩ := h1; exact Heap.lt_size e1
        · rw [q]; obtain ⟨_, e2, _⟩ := h2; exact Heap.lt_size e2
      rw [upd_ne (Nat.ne_of_lt hlt)]
      exact (hf c hcm).1
  done := by
    intro X hP hw hK hc i pins s σ H E I hf st hg
    subst hP hw hK
    obtain ⟨hz, hTI, ⟨a0, b0, hTO⟩, h1, h2⟩ := st
    have D1 := Draws.text (prog := X.prog) (w := X.w) (A := X.A.in1) (I.ok.hd hc) i1 x t1
    have D2 := Draws.text (prog := X.prog) (w := X.w) (A := X.A.in1) (I.ok.hd hc) i2 y t2
    have hg' : i = min x.cps.size y.cps.size := hg
    refine wpAny_pyNext_zipD2_end S D1 D2 hz hTI hTO h1 h2 (by omega) (by omega) (by omega) fun h' tk hk => ⟨rfl, I.turnedL (t' := tk) (ch := [z, TI, TO, i1, i2]) (fun c o hb q =>
      hk c o (fun q' => hb (by simp [q'])) (fun q' => hb (by simp [q'])) (fun q' => hb (by simp [q'])) (fun q' => hb (by simp [q'])) q) hf⟩
  self := fun A i s Q E st h => wpAny_pyIter_zip st.1 h
def iZipS (ta : TA) : TI := fun σ H R => ta σ H fun vs H1 => ∃ x y, vs = [.str x, .str y] ∧ R (ItzS x y) H1
theorem pi_zipS {ta : TA} (hg : Gl X "zip") (hm : X.mg "zip" = none) (ha : PA X [e, e2] ta)
    (hs : starEach [e, e2] X.env = (false, eval e X.env) :: starEach [e2] X.env) (hpl : (backTo pos (starEach [e2] X.env)).any (·.1) = false) :
    PI X (.Tuple elts kk tpos) (.Call (.Name "zip" p) [e, e2] [] pos) (iZipS ta) := by
  constructor
  intro pins s σ H R I h
  refine Call_ (ld_blt I hg hm PyProof.Rows.boot_zip (PyProof.Rows.callWith_type1 (thn (ha.run pos pins s σ H _ I h) ?_) hs hpl))
  rintro us s1 ⟨vs, H1, I1, r1, x, y, rfl, q⟩
  obtain ⟨u1, u2, rfl, ⟨t1, rfl⟩, ⟨t2, rfl⟩⟩ := vals2 r1
  refine zip_begins2 (begins_text x t1) (begins_text y t2) trivial trivial fun h' hz hTI hTO g1 g2 hsz hk => wpAny_pyIter_zip hz ?_
  have I2 : Inv X pins σ H1 { s1 with heap := h' } := I1.kept (t' := s1.toks) hk
  refine ⟨s1.heap.objs.size + 4, [s1.heap.objs.size + 4, s1.heap.objs.size + 2, s1.heap.objs.size + 3, s1.heap.objs.size, s1.heap.objs.size + 1], _, _, H1, rfl, I2, turn_zipS (zip_sep2 (N := s1.heap.objs.size) (fp1 := []) (fp2 := []) (fun _ z => nomatch z) (fun _ z => nomatch z)), ⟨hz, hTI, ⟨_, _, hTO⟩, ⟨_, g1, rfl, rfl⟩, ⟨_, g2, rfl, rfl⟩⟩, fun c hcm => ?_, q⟩
  have e' : c = s1.heap.objs.size + 4 ∨ c = s1.heap.objs.size + 2 ∨ c = s1.heap.objs.size + 3 ∨ c = s1.heap.objs.size ∨ c = s1.heap.objs.size + 1 := by simpa using hcm
  have hle : s1.heap.objs.size ≤ c := by
    rcases e' with z | z | z | z | z
    · rw [z]; exact Nat.le_add_right _ _
    · rw [z]; exact Nat.le_add_right _ _
    · rw [z]; exact Nat.le_add_right _ _
    · rw [z]; exact Nat.le_refl _
    · rw [z]; exact Nat.le_add_right _ _
  exact I1.fpOk hle (I1.hok.fresh hle)
def dZipS (t u : DTE) : DTI := fun ρ M R => t ρ M fun d M1 => u ρ M1 fun d' M2 => ∃ x y, d = .str x ∧ d' = .str y ∧ R (pairs (signs x) (signs y)) (fun _ => True) M2
theorem di_zipS (hm : X.mg "zip" = none) (he : DE X Y e t) (he2 : DE X Y e2 u) (hg : Gl X "zip" := by rfl) (hs : starEach [e, e2] X.env = (false, eval e X.env) :: starEach [e2] X.env := by rfl) (hs2 : starEach [e2] X.env = (false, eval e2 X.env) :: starEach [] X.env := by rfl)
    (hpl : (backTo pos (starEach [e2] X.env)).any (·.1) = false := by rfl) : DI X Y (.Tuple elts kk tpos) (.Call (.Name "zip" p) [e, e2] [] pos) (dZipS t u) := by
  refine PI.weak (pi_zipS hg hm (pa_cons he (pa_cons he2 pa_nil hs2) hs) hs hpl) ?_
  rintro σ H R0 ⟨F, M, ρ, R, rs, rl, q, k⟩
  refine ⟨F, M, ρ, _, rs, rl, q, fun v d F1 M1 H1 s1 rp1 q1 => ?_⟩
  refine ⟨F1, M1, ρ, _, rs.mono s1.same, s1.rel, q1, fun v2 d2 F2 M2 H2 s2 rp2 ⟨x, y, ex, ey, q2⟩ => ?_⟩
  subst ex ey
  cases rp1
  cases rp2
  refine ⟨x, y, rfl, k _ _ _ F2 M2 H2 (s1.trans s2) ⟨fun F3 M3 H3 s3 r3 g => ?_⟩ q2⟩
  have hl : (pairs (signs x) (signs y)).length = min x.cps.size y.cps.size := by unfold pairs signs; simp
  refine ⟨hl, fun i dd hi => ?_⟩
  have hlt : i < min x.cps.size y.cps.size := by rw [← hl]; exact (List.getElem?_eq_some_iff.mp hi).1
  obtain ⟨a, b, ha, hb, rfl⟩ := pairs_get hi
  refine ⟨⟨by omega, by omega⟩, fun vv H4 yy => ?_⟩
  obtain ⟨T, cx, cy, rfl, hT, eH, hx, hy⟩ := yy
  unfold signs at ha hb
  rw [List.getElem?_map, Array.getElem?_toList, hx] at ha
  rw [List.getElem?_map, Array.getElem?_toList, hy] at hb
  cases ha
  cases hb
  exact jw_pair s3 r3 (.str _) (.str _) hT eH

/-! ### list(range(n)) -/
def dListRg (fz : Bool) (t : DTE) : DTE := fun ρ M Q => t ρ M fun d M1 => ∃ j, d = .int j ∧ 0 ≤ j ∧ j ≤ 16777216 ∧ newL fz (rgD 0 j.toNat) M1 Q
theorem rgV_rp {K : PySem.W.Frag} {F : Hp} (j : Int) : RpAll K F (L2.rgV 0 j) (rgD 0 j.toNat) := by
  have g : ∀ n : Nat, ∀ f : Nat → Int, RpAll K F ((List.range n).map fun i => V.int (f i)) ((List.range n).map fun i => D.int (f i)) := by
    intro n
    induction n with
    | zero => intro f; exact .nil
    | succ n ih =>
      intro f
      rw [List.range_succ_eq_map, List.map_cons, List.map_cons, List.map_map, List.map_map]
      exact .cons (.int _) (ih fun i => f (i + 1))
  have := g j.toNat fun i => 0 + (i : Nat)
  unfold L2.rgV rgD
  rw [show (j - 0).toNat = j.toNat by omega]
  exact this
theorem de_listRg (fz : Bool) {p1 p2 : Pos} (m1 : X.mg "list" = none) (m2 : X.mg "range" = none) (he : DE X Y e t) (hc : X.calm = true := by rfl) (g1 : Gl X "list" := by rfl) (g2 : Gl X "range" := by rfl)
    (na : starEach [e] X.env = (false, eval e X.env) :: starEach [] X.env := by rfl) (na2 : starEach [.Call (.Name "range" p1) [e] [] p2] X.env = (false, eval (.Call (.Name "range" p1) [e] [] p2) X.env) :: starEach [] X.env := by rfl) :
    DE X Y (.Call (.Name "list" p) [.Call (.Name "range" p1) [e] [] p2] [] pos) (dListRg fz t) := by
  refine PE.weak (pe_listRg hc g1 m1 (prg_1 g2 m2 he na) na2) ?_
  rintro σ H Q0 ⟨F, M, ρ, Q, rs, rl, q, k⟩
  refine ⟨F, M, ρ, _, rs, rl, q, fun v d F1 M1 H1 s1 rp1 ⟨j, ed, h0, h1, q1⟩ => ?_⟩
  subst ed
  cases rp1
  refine ⟨j, rfl, RgOk.of_le (by omega) h1 (by omega) h0, fun l hl => ?_⟩
  exact newL_ok s1.rel (rgV_rp j) q1 (fun v d F' M' H' s => k v d F' M' H' (s1.trans s)) l hl
end
end DL

/-! DL9: sorted of texts, list(text), a constant dict, slices with a step. -/
namespace DL
open PySem PySem.Spec L2
open PyProof.Rows hiding St

section
variable {X : Cx} {Y : KJ X.K} {pos p p1 p2 p3 : Pos} {a b e : Expr} {t u : DTE}
/-- sorted(a list of texts), fewer than 64 -/
def rSortD (fz : Bool) : RDL := fun ds M Q => ∃ (d : DL.D) (xs : List Str), ds = [d] ∧ lstOf M d = some (xs.map DL.D.str) ∧ xs.length < 64 ∧
  ∀ ys : List Str, ys.Perm xs → sortedS ys = true → newL fz (ys.map DL.D.str) M Q
theorem cd_sort (fz : Bool) : CallD X Y (.builtin "sorted") (rSortD fz) := by
  intro pins s σ H vs us Q0 I r ⟨F, M, ds, Q, rp, rl, ⟨d, xs, e, e1, few, q⟩, k⟩
  subst e
  obtain ⟨v, rfl, r1⟩ := rp1 rp
  obtain ⟨l, ws, rfl, h1, ra⟩ := lstOf_rp rl r1 e1
  rw [rp_strs ra] at h1
  exact cr_sortedS pins s σ H _ us Q0 I r ⟨l, xs, rfl, h1, few, fun ys n pm so hn => newL_ok rl (of_strs ys) (q ys pm so) k n hn⟩
/-- list(a text) -/
def rListS (fz : Bool) : RDL := fun ds M Q => ∃ x : Str, ds = [.str x] ∧ x.cps.size ≤ sizeLine ∧ newL fz (signs x) M Q
theorem signs_rp {K : PySem.W.Frag} {F : Hp} (x : Str) : RpAll K F (x.cps.toList.map fun c => V.str ⟨#[c]⟩) (signs x) := by
  unfold signs
  generalize x.cps.toList = l
  induction l with
  | nil => exact .nil
  | cons c l ih => exact .cons (.str _) ih
theorem cd_listS (fz : Bool) (hc : X.calm = true) : CallD X Y (.type "list") (rListS fz) := by
  intro pins s σ H vs us Q0 I r ⟨F, M, ds, Q, rp, rl, ⟨x, e, small, q⟩, k⟩
  subst e
  obtain ⟨v, rfl, r1⟩ := rp1 rp
  cases r1
  obtain ⟨u, rfl, ⟨t, rfl⟩⟩ := vals1 r
  refine call_list_str (I.ok.hd hc) x t (hn := small) fun h' tk acc c keep at1 ⟨len, are⟩ => ?_
  have vals : Vals (x.cps.toList.map fun c => V.str ⟨#[c]⟩) acc.toList := by
    refine vals_of_at (by simp [len]) fun i v w hv hw => ?_
    rw [Array.getElem?_toList] at hw
    obtain ⟨c, t, hc, rfl⟩ := are i w hw
    rw [List.getElem?_map, Array.getElem?_toList, hc] at hv
    cases hv
    exact ⟨t, rfl⟩
  refine ⟨.ref _, upd H s.heap.objs.size (.lst (x.cps.toList.map fun c => V.str ⟨#[c]⟩)), I.laid (t' := tk) keep (Nat.le_refl _) ⟨?_, acc.toList, c, vals, ?_⟩, rfl, newL_ok rl (signs_rp x) q k _ (I.hok.fresh (Nat.le_refl _))⟩
  · rw [List.length_map, Array.length_toList]; exact small
  · exact at1
end
end DL

/-! DL10: slices with a step, a constant dict. -/
namespace DL
open PySem PySem.Spec L2
open PyProof.Rows hiding St

/-! ### lists -/
theorem fm_congr {α β : Type} {f g : α → Option β} : ∀ {l : List α}, (∀ k ∈ l, f k = g k) → l.filterMap f = l.filterMap g
  | [], _ => rfl
  | x :: l, h => by
    have ih := fm_congr (l := l) fun k hk => h k (List.mem_cons_of_mem _ hk)
    rw [List.filterMap_cons, List.filterMap_cons, h x List.mem_cons_self, ih]
/-- every other item, from the first -/
def ev {α : Type} : List α → List α
  | [] => []
  | [x] => [x]
  | x :: _ :: r => x :: ev r
theorem ev_pick {α : Type} : ∀ l : List α, ((List.range ((l.length + 1) / 2)).map fun k => 2 * k).filterMap (l[·]?) = ev l
  | [] => by simp [ev]
  | [x] => by simp [ev]
  | x :: y :: r => by
    have ih := ev_pick r
    have e : ((x :: y :: r).length + 1) / 2 = (r.length + 1) / 2 + 1 := by simp only [List.length_cons]; omega
    rw [e, List.range_succ_eq_map, List.map_cons, List.map_map, List.filterMap_cons]
    show x :: _ = x :: ev r
    rw [← ih, List.filterMap_map, List.filterMap_map]
    refine congrArg (x :: ·) (fm_congr fun k _ => ?_)
    show (x :: y :: r)[2 * (k + 1)]? = r[2 * k]?
    rw [show 2 * (k + 1) = 2 * k + 1 + 1 by omega, List.getElem?_cons_succ, List.getElem?_cons_succ]
theorem back_pick {α : Type} : ∀ l : List α, ((List.range l.length).map fun k => l.length - 1 - k).filterMap (l[·]?) = l.reverse := by
  intro l
  generalize hm : l.reverse = m
  have hl : l = m.reverse := by rw [← hm, List.reverse_reverse]
  subst hl
  clear hm
  induction m with
  | nil => rfl
  | cons x m ih =>
    rw [List.filterMap_map] at ih ⊢
    rw [List.length_reverse] at ih ⊢
    rw [List.length_cons, List.range_succ_eq_map, List.filterMap_cons, List.filterMap_map]
    have e0 : ((fun i => (x :: m).reverse[i]?) ∘ fun k => m.length + 1 - 1 - k) 0 = some x := by
      show (x :: m).reverse[m.length + 1 - 1 - 0]? = some x
      rw [List.reverse_cons, List.getElem?_append_right (by rw [List.length_reverse]; omega), List.length_reverse]
      simp
    rw [e0]
    refine congrArg (x :: ·) (Eq.trans (fm_congr fun k hk => ?_) ih)
    have hk' := List.mem_range.mp hk
    show (x :: m).reverse[m.length + 1 - 1 - (k + 1)]? = m.reverse[m.length - 1 - k]?
    rw [List.reverse_cons, List.getElem?_append_left (by rw [List.length_reverse]; omega)]
    exact congrArg (m.reverse[·]?) (by omega)
theorem rng_two (n : Nat) : sliceRange 0 (n : Int) 2 = (List.range ((n + 1) / 2)).map fun k => 2 * k := by
  unfold sliceRange
  by_cases h : (0 : Int) < (n : Int)
  · have e : (((n : Int) - 0 + 2 - 1) / 2).toNat = (n + 1) / 2 := by omega
    simp only [show (2 : Int) > 0 from by decide, if_true, h, e]
    exact List.map_congr_left fun k _ => by omega
  · obtain rfl : n = 0 := by omega
    simp
theorem rng_odd (n : Nat) : sliceRange (min 1 (n : Int)) (n : Int) 2 = (List.range (((n - 1) + 1) / 2)).map fun k => 2 * k + 1 := by
  unfold sliceRange
  by_cases h : (1 : Int) < (n : Int)
  · have e1 : min (1 : Int) (n : Int) = 1 := by omega
    have e : (((n : Int) - 1 + 2 - 1) / 2).toNat = (n - 1 + 1) / 2 := by omega
    rw [e1]
    simp only [show (2 : Int) > 0 from by decide, if_true, h, e]
    exact List.map_congr_left fun k _ => by omega
  · rcases (show n = 0 ∨ n = 1 by omega) with rfl | rfl <;> rfl
theorem rng_back (n : Nat) : sliceRange ((n : Int) - 1) (-1) (-1) = (List.range n).map fun k => n - 1 - k := PySem.W.krv_sliceRange n
theorem pick_ev (its : Array Value) : slicePick its none none (some 2) = (ev its.toList).toArray := by
  have b : sliceBounds none none (some 2) its.size = (0, (its.size : Int), 2) := by first | rfl | simp [sliceBounds]
  unfold slicePick
  rw [b]
  show ((sliceRange 0 (its.size : Int) 2).filterMap (its[·]?)).toArray = _
  rw [rng_two, ← ev_pick its.toList, Array.length_toList]
  simp only [Array.getElem?_toList]
theorem pick_od (its : Array Value) : slicePick its (some 1) none (some 2) = (ev its.toList.tail).toArray := by
  have b : sliceBounds (some 1) none (some 2) its.size = (min 1 (its.size : Int), (its.size : Int), 2) := by
    simp only [sliceBounds]
    first | rfl | (simp; omega) | simp
  unfold slicePick
  rw [b]
  show ((sliceRange (min 1 (its.size : Int)) (its.size : Int) 2).filterMap (its[·]?)).toArray = _
  have l : its.toList.tail.length = its.size - 1 := by simp
  rw [rng_odd, ← ev_pick its.toList.tail, l, List.filterMap_map, List.filterMap_map]
  refine congrArg _ (fm_congr fun k _ => ?_)
  show its[2 * k + 1]? = its.toList.tail[2 * k]?
  rw [List.getElem?_tail, Array.getElem?_toList]
theorem RpAll.ev {K : PySem.W.Frag} {F : Hp} : ∀ {vs : List V} {ds : List DL.D}, RpAll K F vs ds → RpAll K F (DL.ev vs) (DL.ev ds)
  | _, _, .nil => .nil
  | _, _, .cons h .nil => .cons h .nil
  | _, _, .cons h (.cons _ t) => .cons h (RpAll.ev t)
theorem vals_ev : ∀ {vs : List V} {us : List Value}, Vals vs us → Vals (DL.ev vs) (DL.ev us)
  | _, _, .nil => .nil
  | _, _, .cons h .nil => .cons h .nil
  | _, _, .cons h (.cons _ t) => .cons h (vals_ev t)
theorem ev_length {α : Type} : ∀ l : List α, (ev l).length = (l.length + 1) / 2
  | [] => by simp [ev]
  | [_] => by simp [ev]
  | _ :: _ :: r => by
    show (ev r).length + 1 = (r.length + 1 + 1 + 1) / 2
    rw [ev_length r]; omega
theorem ev_mem {α : Type} {x : α} : ∀ {l : List α}, x ∈ ev l → x ∈ l
  | [], h => h
  | [_], h => h
  | y :: _ :: r, h => by
    cases List.mem_cons.mp h with
    | inl e => rw [e]; exact List.mem_cons_self
    | inr e => exact List.mem_cons_of_mem _ (List.mem_cons_of_mem _ (ev_mem e))
theorem vals_tail {vs : List V} {us : List Value} (h : Vals vs us) : Vals vs.tail us.tail := by
  cases h with
  | nil => exact .nil
  | cons a b => exact b
theorem RpAll.tail {K : PySem.W.Frag} {F : Hp} {vs : List V} {ds : List DL.D} (h : RpAll K F vs ds) : RpAll K F vs.tail ds.tail := by
  cases h with
  | nil => exact .nil
  | cons a b => exact b

/-! ### the slice -/
section
variable {X : Cx} {Y : KJ X.K} {pos p p1 p2 p3 : Pos} {a b e st : Expr} {t u : DTE} {lo hi : Option Expr}
/-- what holds of x[lo:hi:st] when its parts are known -/
def Sl3R (X : Cx) (l h k : Option Int) (r : V → Hp → VK → Prop) : Prop :=
  ∀ (pins : List (Addr × Obj)) (s : Shared) (σ : St) (H : Hp) (x : V) (v vl vu vs : Value) (sl : Addr) (Q : VK), Inv X pins σ H s → RelV x v → s.heap.IsSliceOf sl vl vu vs → IsPart vl l → IsPart vu h → IsPart vs k → r x H Q →
    ∃ T id, typeLookup (.type T) "__getitem__" = pure (some (.builtin id)) ∧ s.TypeIs v T ∧ wpAny (model X.prog X.w) X.A (getItem v (.ref sl)) (EP X pins σ Q) X.xe s
theorem pe_slice3 {l h : Option Int} {k : Int} {r : V → Hp → VK → Prop} {te : TE} (hr : Sl3R X l h (some k) r) (he : PE X e te) (hl : PO X lo (fun _ H Q => Q l H)) (hu : PO X hi (fun _ H Q => Q h H)) (hs : PO X (some st) (fun _ H Q => Q (some k) H)) :
    PE X (.Subscript e (.Slice lo hi (some st) p2) pos) (fun σ H Q => te σ H fun x H1 => r x H1 Q) := by
  refine ⟨fun pins s σ H Q I q => Subscript_ (thn (he.run pins s σ H _ I q) fun v s1 ⟨x, H1, I1, r1, q1⟩ => ?_)⟩
  refine wpAny_Slice (thn (hl.run pins s1 σ H1 (fun o H2 => o = l ∧ H2 = H1) I1 ⟨rfl, rfl⟩) fun vl s2 ⟨_, H2, I2, pl, el, e2⟩ => ?_)
  subst el e2
  refine thn (hu.run pins s2 σ H2 (fun o H3 => o = h ∧ H3 = H2) I2 ⟨rfl, rfl⟩) fun vu s3 ⟨_, H3, I3, pu, eu, e3⟩ => ?_
  subst eu e3
  refine thn (hs.run pins s3 σ H3 (fun o H4 => o = some k ∧ H4 = H3) I3 ⟨rfl, rfl⟩) fun vs s4 ⟨_, H4, I4, ps, es, e4⟩ => ?_
  subst es e4
  have I5 : Inv X pins σ H4 { s4 with heap := s4.heap.push { cls := .type "slice", data := .fields #[vl, vu, vs] } } := I4.kept (t' := s4.toks) fun b ob z => Heap.get?_push_of_some _ z
  obtain ⟨T, id, hT, ht, hg⟩ := hr pins _ σ H4 x v vl vu vs s4.heap.objs.size Q I5 r1 (Heap.IsSliceOf.new _ vl vu vs) pl pu ps q1
  show wpAny (model X.prog X.w) X.A (subscriptTail e (.Slice lo hi (some st) p2) v (.ref s4.heap.objs.size)) (EP X pins σ Q) X.xe _
  exact tail_any (ops := [v, .ref s4.heap.objs.size]) ht hT hg (by with_unfolding_all rfl)
theorem po_c (i : Int) {c : Expr} (h : PE X c (tC (.int i))) : PO X (some c) (fun _ H Q => Q (some i) H) := by
  refine ⟨fun pins s σ H Q I q => ?_⟩
  exact (po_some h).run pins s σ H Q I ⟨i, rfl, q⟩
theorem po_n : PO X none (fun _ H Q => Q none H) := ⟨fun pins s σ H Q I q => po_none.run pins s σ H Q I q⟩
theorem sl3_list {l h : Option Int} {k : Int} {f : List V → List V} {g : List Value → List Value} (k0 : k ≠ 0) (hf : ∀ its : List Value, slicePick its.toArray l h (some k) = (g its).toArray) (hv : ∀ {vs us}, Vals vs us → Vals (f vs) (g us)) (hz : ∀ vs, (f vs).length ≤ vs.length) :
    Sl3R X l h (some k) (fun x H Q => ∃ a xs, x = .ref a ∧ SqL X.K H a xs ∧ ∀ p, H p = none → Q (.ref p) (upd H p (.lst (f xs)))) := by
  rintro pins s σ H x v vl vu vs sl Q I rx hs pl pu ps ⟨a, xs, rfl, hx, q⟩
  cases rx
  obtain ⟨its, r, ht, small⟩ := I.list hx
  have len := r.length
  refine ⟨"list", _, slot_list_getitem.lookup, ht.isList.typeIs, ?_⟩
  refine wpAny_getItem_list_slice ht.isList hs pl pu ps (fun z => k0 (Option.some.inj z)) ?_ (by rw [List.size_toArray]; omega)
  rw [hf]
  refine ⟨.ref _, _, I.laid (t' := s.toks) (o := .lst (f xs)) (fun b ob z => Heap.get?_push_of_some _ z) (Nat.le_refl _) ?_, rfl, q _ (I.hok.fresh (Nat.le_refl _))⟩
  exact ⟨Nat.le_trans (hz xs) small, _, 0, hv r, Heap.get?_push_size _ rfl⟩
/-- x[::2], x[1::2] of a list -/
def dEv (fz : Bool) (f : List DL.D → List DL.D) (t : DTE) : DTE := fun ρ M Q => t ρ M fun d M1 => ∃ xs, lstOf M1 d = some xs ∧ newL fz (f xs) M1 Q
theorem can_ev {fz : Bool} {f : List DL.D → List DL.D} {g : List V → List V} (hr : ∀ {F vs ds}, RpAll X.K F vs ds → RpAll X.K F (g vs) (f ds)) {σ : St} {H : Hp} {Q0 : VK} (q : canE Y (dEv fz f t) σ H Q0) :
    canE Y t σ H fun x H1 => ∃ a xs, x = .ref a ∧ SqL X.K H1 a xs ∧ ∀ p, H1 p = none → Q0 (.ref p) (upd H1 p (.lst (g xs))) := by
  obtain ⟨F, M, ρ, Q, rs, rl, q, k⟩ := q
  refine ⟨F, M, ρ, _, rs, rl, q, fun v d F1 M1 H1 s1 rp ⟨xs, e1, q1⟩ => ?_⟩
  obtain ⟨l, vs, rfl, h1, ra⟩ := lstOf_rp s1.rel rp e1
  exact ⟨l, vs, rfl, h1, fun p hp => newL_ok s1.rel (hr ra) q1 (fun v z F' M' H' s => k v z F' M' H' (s1.trans s)) p hp⟩
theorem de_step2_0 (fz : Bool) {kd : Nat} (he : DE X Y e t) : DE X Y (.Subscript e (.Slice none none (some (.Constant (.int 2) kd p1)) p2) pos) (dEv fz ev t) := by
  refine PE.weak (pe_slice3 (sl3_list (f := ev) (g := ev) (by decide) (fun its => pick_ev its.toArray) vals_ev (fun vs => by rw [ev_length]; omega)) he po_n po_n (po_c 2 pe_int)) fun σ H Q0 q => can_ev RpAll.ev q
theorem de_step2_1 (fz : Bool) {kd kd2 : Nat} (he : DE X Y e t) : DE X Y (.Subscript e (.Slice (some (.Constant (.int 1) kd2 p3)) none (some (.Constant (.int 2) kd p1)) p2) pos) (dEv fz (fun xs => ev xs.tail) t) := by
  refine PE.weak (pe_slice3 (sl3_list (f := fun xs => ev xs.tail) (g := fun xs => ev xs.tail) (by decide) (fun its => pick_od its.toArray) (fun r => vals_ev (vals_tail r)) (fun vs => by rw [ev_length, List.length_tail]; omega)) he (po_c 1 pe_int) po_n (po_c 2 pe_int)) fun σ H Q0 q => can_ev (fun r => r.tail.ev) q
end
/-! ### x[::-1] of a tuple, of a text -/
theorem getItem_tuple_back {P : Program} {w : World} {A : Around} {E : Value → Shared → Prop} {s : Shared} {t sl : Addr} {items : Array Value} {vl vu vs : Value} {Q : Value → Shared → Prop} (ht : IsTup s.heap t items) (hs : s.heap.IsSliceOf sl vl vu vs) (pl : IsPart vl none) (pu : IsPart vu none) (pk : IsPart vs (some (-1)))
    (small : items.size ≤ sizeLine) (h : Q (.ref s.heap.objs.size) { s with heap := s.heap.push { cls := .type "tuple", data := .seq items.toList.reverse.toArray } }) : wpAny (model P w) A (getItem (.ref t) (.ref sl)) Q E s := by
  obtain ⟨os, hos, hcs, hds⟩ := id hs
  have isSl : s.TypeIs (.ref sl) "slice" := ⟨os, hos, hcs⟩
  unfold getItem
  try with_reducible refine wpAny_holding ?_
  first | refine wpAny_bind (wpAny_pure ?_) | skip
  refine wpAny_bind (wpAny_sequenceKey ht.typeIs (by decide) (wpAny_bind (wpAny_callSpecial?_slot (name := Str.ofString "__getitem__") ht.typeIs PyProof.Rows.slot_tuple_getitem
    (wpAny_call_entry PyProof.Rows.slot_tuple_getitem ht.typeIs entry_tuple_getitem ?_ (args_tuple_getitem _ _)))))
  refine wpAny_bind (m := Builtin.Tuple.tupleItemsOf (.ref t)) (tupleItemsOf_ ht (wpAny_bind (wpAny_typeOf isSl ?_)))
  rw [if_pos (by decide)]
  have places : Builtin.Slice.slicePlaces ((items.size : Int) - 1) (-1) (-1) = items.size := by
    unfold Builtin.Slice.slicePlaces
    by_cases z : (items.size : Int) - 1 > -1
    · simp only [show ¬ ((-1 : Int) > 0) from by decide, if_false, z, if_true]
      rw [show (- -1 : Int) = 1 from rfl, Int.ediv_one]
      omega
    · simp only [show ¬ ((-1 : Int) > 0) from by decide, if_false, z]
      omega
  refine wpAny_bind (m := Builtin.Slice.sliceApplied (.ref sl) (pure (items.size : Int))) ?_
  unfold Builtin.Slice.sliceApplied Builtin.Slice.sliceFields
  refine wpAny_bind (wpAny_bind (wpAny_field hos hds (x := vl) rfl (wpAny_bind (wpAny_field hos hds (x := vu) rfl (wpAny_bind (wpAny_field hos hds (x := vs) rfl (wpAny_pure ?_)))))))
  refine wpAny_bind (HT.slicePart_ pk ?_)
  show wpAny _ _ (if ((-1 : Int) == 0) = true then _ else _) _ _ s
  rw [if_neg (by decide)]
  refine wpAny_bind (HT.slicePart_ pl (wpAny_bind (HT.slicePart_ pu (wpAny_bind (wpAny_pure ?_)))))
  have adj : Builtin.Slice.sliceAdjust none none (-1) (items.size : Int) = ((items.size : Int) - 1, -1) := by first | rfl | simp [Builtin.Slice.sliceAdjust]
  show wpAny _ _ (match Builtin.Slice.sliceAdjust none none (-1) (items.size : Int) with | (lo, hi) => pure (lo, (-1 : Int), Builtin.Slice.slicePlaces lo hi (-1))) _ _ s
  rw [adj]
  show wpAny _ _ (pure ((items.size : Int) - 1, (-1 : Int), Builtin.Slice.slicePlaces ((items.size : Int) - 1) (-1) (-1))) _ _ s
  rw [places]
  refine wpAny_pure ?_
  have notAll : ¬ ((((items.size : Int) - 1) == 0 && (-1 : Int) == 1 && items.size == items.size) = true) := by
    intro z
    rw [Bool.and_eq_true, Bool.and_eq_true] at z
    exact absurd z.1.2 (by decide)
  show wpAny _ _ (if (((items.size : Int) - 1) == 0 && (-1 : Int) == 1 && items.size == items.size) = true then _ else _) _ _ s
  have picked : ((List.range items.size).filterMap fun (m : Nat) => items[((items.size : Int) - 1 + (m : Int) * -1).toNat]?).toArray = items.toList.reverse.toArray := by
    have q := back_pick items.toList
    rw [List.filterMap_map, Array.length_toList] at q
    rw [← q]
    refine congrArg _ (fm_congr fun m hm => ?_)
    show _ = items.toList[items.size - 1 - m]?
    rw [Array.getElem?_toList]
    exact congrArg (items[·]?) (by omega)
  rw [if_neg notAll, picked]
  have fits : sizeOk (.seq items.toList.reverse.toArray) := by
    show items.toList.reverse.toArray.size ≤ sizeLine
    rw [List.size_toArray, List.length_reverse, Array.length_toList]; exact small
  first
    | exact wpAny_bind (m := Builtin.Tuple.tupleExact _) (wpAny_newObj_type (wpAny_pure ⟨_, rfl, wpAny_pure h⟩) fits)
    | exact wpAny_bind (m := Builtin.Tuple.tupleExact _) (wpAny_newObj_type (wpAny_bind (wpAny_pure (wpAny_pure ⟨_, rfl, wpAny_pure h⟩))) fits)
    | exact wpAny_bind (wpAny_bind (m := Builtin.Tuple.tupleExact _) (wpAny_newObj_type (wpAny_pure (wpAny_pure ⟨_, rfl, wpAny_pure h⟩)) fits))
    | exact wpAny_bind (wpAny_bind (m := Builtin.Tuple.tupleExact _) (wpAny_newObj_type (wpAny_pure ⟨_, rfl, wpAny_pure h⟩) fits))
theorem sl3_tupB {X : Cx} {Y : KJ X.K} : Sl3R X none none (some (-1)) (fun x H Q => ∃ a xs, x = .ref a ∧ SqT X.K H a xs ∧ ∀ p, H p = none → Q (.ref p) (upd H p (.tup xs.reverse))) := by
  rintro pins s σ H x v vl vu vs sl Q I rx hs pl pu ps ⟨a, xs, rfl, hx, q⟩
  cases rx
  obtain ⟨its, r, ht, small⟩ := I.tuple hx
  have len := r.length
  refine ⟨"tuple", _, PyProof.Rows.slot_tuple_getitem.lookup, ht.typeIs, ?_⟩
  refine getItem_tuple_back ht hs pl pu ps (by rw [List.size_toArray]; omega) ?_
  refine ⟨.ref s.heap.objs.size, _, I.laid (t' := s.toks) (o := .tup xs.reverse) (fun b ob z => Heap.get?_push_of_some _ z) (Nat.le_refl _) ?_, rfl, q _ (I.hok.fresh (Nat.le_refl _))⟩
  exact ⟨by rw [List.length_reverse]; exact small, _, r.reverse, IsTup.new _ _⟩
def revT (z : Str) : Str := ⟨z.cps.toList.reverse.toArray⟩
theorem sl3_strB {X : Cx} {Y : KJ X.K} : Sl3R X none none (some (-1)) (fun x H Q => ∃ z, x = .str z ∧ z.length ≤ sizeLine ∧ Q (.str (revT z)) H) := by
  rintro pins s σ H x v vl vu vs sl Q I rx hs pl pu ps ⟨z, rfl, small, q⟩
  obtain ⟨t, rfl⟩ := rx
  obtain ⟨os, hos, hcs, hds⟩ := hs
  obtain ⟨l, rfl, el⟩ := IsPart.raw pl
  obtain ⟨u, rfl, eu⟩ := IsPart.raw pu
  obtain ⟨k, rfl, ek⟩ := IsPart.raw ps
  refine ⟨"str", _, F.slot_str_getitem.lookup, typeIs_str _ _ _, ?_⟩
  refine wpAny_getItem_str_slice (l := l) (u := u) (st := k) ⟨os, hos, hcs, hds⟩ (by rw [ek]; rfl) ?_
  have e : slicePicked z l u k = (List.range z.cps.toList.length).map fun k => z.cps.toList.length - 1 - k := by
    unfold slicePicked
    rw [el, eu, ek, Array.length_toList]
    exact rng_back z.cps.size
  have made : sliceMade z t l u k = .str (revT z) := by
    unfold sliceMade
    rw [ek]
    rw [if_neg (by simp), e]
    unfold revT
    rw [← back_pick z.cps.toList]
    simp only [Array.getElem?_toList]
  rw [made]
  refine ⟨?_, ⟨.str (revT z), H, I.tok _, ⟨_, rfl⟩, q⟩⟩
  show z.cps.toList.reverse.toArray.size ≤ sizeLine
  rw [List.size_toArray, List.length_reverse, Array.length_toList]; exact small
end DL

/-! DL8a: sets of texts made of a list or of a text, and their sorted list. -/
namespace DL
open PySem PySem.Spec L2
open PyProof.Rows hiding St

def kOf (e : Int × Value) : Str := match e.2 with
  | .str k _ => k
  | _ => Str.empty
def TxE (w : World) (e : Int × Value) : Prop := ∃ k u, e = (hashStr w k, Value.str k u)
/-- the set at a has just the texts ks -/
def TxS (w : World) (h : Heap) (a : Addr) (ks : List Str) : Prop :=
  ∃ o es ep t, h.get? a = some o ∧ o.ExactSet ∧ o.data = .set es ep t ∧ (∀ e ∈ es.toList, TxE w e) ∧ (es.toList.map kOf).Perm ks ∧ ks.Nodup ∧
    es.size < scanBound ∧ t.fits es.size = true ∧ Ris t.place.toList ∧ (w.params.followText "set-order" = true ∨ t.led = true)
section
variable {P : Program} {w : World} {A : Around} {E : Value → Shared → Prop} {s : Shared} {a : Addr} {ks : List Str}
theorem TxS.at {h h' : Heap} (R : TxS w h a ks) (keep : ∀ o, h.get? a = some o → h'.get? a = some o) : TxS w h' a ks :=
  let ⟨o, es, ep, t, x, r⟩ := R
  ⟨o, es, ep, t, keep o x, r⟩
theorem tx_elems {l : List (Int × Value)} (g : ∀ e ∈ l, TxE w e) : ElemsOf (PySem.strKind P w) l := by
  intro e he
  obtain ⟨k, u, rfl⟩ := g e he
  exact ⟨⟨k, strKind_is P w k u, rfl⟩, rfl⟩
theorem tx_is (k k2 : Str) (u : Tok) : (PySem.strKind P w).is k (.str k2 u) = true ↔ k2 = k := by
  show Value.isStrOf k (.str k2 u) = true ↔ _
  simp [Value.isStrOf]
theorem tx_none {l : List (Int × Value)} (g : ∀ e ∈ l, TxE w e) (k : Str) : k ∈ l.map kOf ↔ ∃ e ∈ l, (PySem.strKind P w).is k e.2 = true := by
  rw [List.mem_map]
  refine ⟨fun ⟨e, he, q⟩ => ⟨e, he, ?_⟩, fun ⟨e, he, q⟩ => ⟨e, he, ?_⟩⟩ <;> obtain ⟨k2, u, rfl⟩ := g e he
  · exact (tx_is k k2 u).2 q
  · exact (tx_is k k2 u).1 q
set_option maxHeartbeats 1000000 in
theorem tx_add {k : Str} {u : Tok} {Q : Bool → Shared → Prop} (R : TxS w s.heap a ks) (room : ks.length + 1 < scanBound)
    (hQ : ∀ h' b, Heap.SameBut a s.heap h' → TxS w h' a (if k ∈ ks then ks else k :: ks) → Q b { s with heap := h' }) :
    wpAny (model P w) A (setAddHashed a (.str k u) ((PySem.strKind P w).hash k)) Q E s := by
  obtain ⟨o, es, ep, t, ho, hex, hd, good, pm0, nodup, small, fit, rises, led⟩ := R
  have key : (PySem.strKind P w).is k (.str k u) = true := strKind_is P w k u
  have scan : (Value.str k u).scannable = true := rfl
  have elems : ElemsOf (PySem.strKind P w) es.toList := tx_elems good
  unfold setAddHashed setAddHashedIn
  refine wpAny_holding (wpAny_bind (wpAny_setState_of ho hd fit ?_))
  dsimp only
  rw [byScan_of scan small elems]
  simp only [↓reduceIte]
  unfold setAddByScan
  refine wpAny_bind (wpAny_bind (wpAny_rule (wpAny_bind (wpAny_setScan_of key ho hd fit elems ?_))))
  cases hfi : List.findIdx? (fun e => (PySem.strKind P w).is k e.2) es.toList with
  | some j =>
    obtain ⟨hj, pj, _⟩ := List.findIdx?_eq_some_iff_getElem.mp hfi
    have inn : k ∈ ks := pm0.mem_iff.mp ((tx_none (P := P) (w := w) good k).2 ⟨_, List.getElem_mem hj, pj⟩)
    refine wpAny_pure (wpAny_pure (hQ s.heap _ (Heap.SameBut.refl a s.heap) ?_))
    rw [if_pos inn]
    exact ⟨o, es, ep, t, ho, hex, hd, good, pm0, nodup, small, fit, rises, led⟩
  | none =>
    dsimp only
    have out : k ∉ ks := fun z => by
      obtain ⟨e, he, q⟩ := (tx_none (P := P) (w := w) good k).1 (pm0.mem_iff.mpr z)
      rw [List.findIdx?_eq_none_iff.mp hfi e he] at q
      cases q
    have said : ∀ (b : Bool) {s1 : Shared} {Q' : Unit → Shared → Prop}, Q' () s1 → wpAny (model P w) A (match b with | true => rule "set.scan.the-table-gave-way" | false => pure ()) Q' E s1 := by
      intro b s1 Q' q
      cases b
      · exact wpAny_pure q
      · exact wpAny_rule q
    have p1 := layNew_perm t es ((PySem.strKind P w).hash k) (.str k u)
    have f1 := layNew_fits t es ((PySem.strKind P w).hash k) (.str k u)
    have i1 := layNew_ris t es ((PySem.strKind P w).hash k) (.str k u) rises
    have l1 := layNew_led t es ((PySem.strKind P w).hash k) (.str k u)
    generalize layNew t es ((PySem.strKind P w).hash k) (.str k u) = Z at p1 f1 i1 l1 ⊢
    obtain ⟨es1, t1, dummy, gave⟩ := Z
    dsimp only at p1 f1 i1 l1 ⊢
    rw [Array.toList_push] at p1
    have pc := p1.trans (List.perm_append_singleton _ _)
    have pk : (es1.toList.map kOf).Perm (k :: ks) := (pc.map kOf).trans (pm0.cons k)
    have g1 : ∀ e ∈ es1.toList, TxE w e := by
      intro e he
      cases List.mem_cons.mp (pc.mem_iff.mp he) with
      | inl z => exact ⟨k, u, z⟩
      | inr z => exact good e z
    have nd1 : (k :: ks).Nodup := List.nodup_cons.mpr ⟨out, nodup⟩
    have size1 : es1.size = ks.length + 1 := by
      have q := pk.length_eq
      rw [List.length_map, List.length_cons, Array.length_toList] at q
      exact q
    have small1 : es1.size < scanBound := size1 ▸ room
    have led1 : w.params.followText "set-order" = true ∨ t1.led = true := led.imp id fun z => by rw [l1]; exact z
    have fin : ∀ h' b, Heap.SameBut a s.heap h' → TxS w h' a (k :: ks) → Q b { s with heap := h' } := fun h' b sb r => hQ h' b sb (by rw [if_neg out]; exact r)
    have last : ∀ (t2 : SetTable), t2.fits es1.size = true → Ris t2.place.toList → (w.params.followText "set-order" = true ∨ t2.led = true) →
        (∃ o1, (s.heap.update a (Obj.putSet es1 t2)).get? a = some o1 ∧ o1.ExactSet ∧ o1.data = .set es1 (ep + 1) t2) ∧ TxS w (s.heap.update a (Obj.putSet es1 t2)) a (k :: ks) ∧
        (∃ es3 t3, es3 = (relayAll t2 es1 (SetTable.grown es1.size)).1 ∧ t3 = (relayAll t2 es1 (SetTable.grown es1.size)).2.1 ∧ es3.size < scanBound ∧ TxS w ((s.heap.update a (Obj.putSet es1 t2)).update a (Obj.putSet es3 t3)) a (k :: ks)) := by
      intro t2 f2 i2 l2
      have ho1 := store_at (es' := es1) (t' := t2) ho hd
      refine ⟨⟨_, ho1, hex, rfl⟩, ⟨_, es1, _, t2, ho1, hex, rfl, g1, pk, nd1, small1, f2, i2, l2⟩, _, _, rfl, rfl, ?_⟩
      have p3 := relayAll_perm t2 es1 (SetTable.grown es1.size)
      have f3 := relayAll_fits t2 es1 (SetTable.grown es1.size)
      have i3 := relayAll_ris t2 es1 (SetTable.grown es1.size)
      have l3 := relayAll_led t2 es1 (SetTable.grown es1.size)
      have ho2 := store_at (es' := (relayAll t2 es1 (SetTable.grown es1.size)).1) (t' := (relayAll t2 es1 (SetTable.grown es1.size)).2.1) ho1 rfl
      have size3 : (relayAll t2 es1 (SetTable.grown es1.size)).1.size = es1.size := by
        have q := p3.length_eq
        rw [Array.length_toList, Array.length_toList] at q
        exact q
      have small3 := small1
      rw [← size3] at small3
      refine ⟨small3, _, _, _, _, ho2, hex, rfl, fun e he => g1 e (p3.mem_iff.mp he), (p3.map kOf).trans pk, nd1, small3, f3, i3, l2.imp id fun z => by rw [l3]; exact z⟩
    have sb1 : ∀ t2, Heap.SameBut a s.heap (s.heap.update a (Obj.putSet es1 t2)) := fun t2 => Heap.SameBut.update s.heap a _
    refine wpAny_bind (said _ ?_)
    split
    · refine wpAny_bind ?_
      rw [hashByValue_scannable 8 scan]
      refine wpAny_pure ?_
      refine wpAny_bind (wpAny_storeSet_of ho hd ?_ (fits_of_scanBound small1))
      split
      · obtain ⟨⟨o1, ho1, x1, d1⟩, r1, es3, t3, e3, et3, b3, r3⟩ := last t1 f1 i1 led1
        split
        · refine wpAny_bind (said _ ?_)
          refine wpAny_bind (wpAny_storeSet_of ho1 d1 ?_ (fits_of_scanBound (by rw [← e3]; exact b3)))
          rw [← e3, ← et3]
          exact wpAny_pure (wpAny_pure (fin _ _ ((sb1 _).trans (Heap.SameBut.update _ a _)) r3))
        · exact wpAny_pure (wpAny_pure (fin _ _ (sb1 _) r1))
      · obtain ⟨⟨o1, ho1, x1, d1⟩, r1, es3, t3, e3, et3, b3, r3⟩ := last { t1 with plain := false } (SetTable.fits_plain_off f1) i1 led1
        split
        · refine wpAny_bind (said _ ?_)
          refine wpAny_bind (wpAny_storeSet_of ho1 d1 ?_ (fits_of_scanBound (by rw [← e3]; exact b3)))
          rw [← e3, ← et3]
          exact wpAny_pure (wpAny_pure (fin _ _ ((sb1 _).trans (Heap.SameBut.update _ a _)) r3))
        · exact wpAny_pure (wpAny_pure (fin _ _ (sb1 _) r1))
    · refine wpAny_bind (wpAny_pure ?_)
      simp only [↓reduceIte]
      refine wpAny_bind (wpAny_storeSet_of ho hd ?_ (fits_of_scanBound small1))
      obtain ⟨⟨o1, ho1, x1, d1⟩, r1, es3, t3, e3, et3, b3, r3⟩ := last t1 f1 i1 led1
      split
      · refine wpAny_bind (said _ ?_)
        refine wpAny_bind (wpAny_storeSet_of ho1 d1 ?_ (fits_of_scanBound (by rw [← e3]; exact b3)))
        rw [← e3, ← et3]
        exact wpAny_pure (wpAny_pure (fin _ _ ((sb1 _).trans (Heap.SameBut.update _ a _)) r3))
      · exact wpAny_pure (wpAny_pure (fin _ _ (sb1 _) r1))
end
end DL

/-! DL8b: set(a list of texts), set(a text). -/
namespace DL
open PySem PySem.Spec L2
open PyProof.Rows hiding St

section
variable {P : Program} {w : World} {A : Around} {E : Value → Shared → Prop} {s : Shared}
/-- few distinct texts -/
def Few (xs : List Str) : Prop := ∀ ks : List Str, ks.Nodup → (∀ k ∈ ks, k ∈ xs) → ks.length < 64
theorem tx_loop {I : Addr} {fp wr : List Addr} {G : Array GenState → Array GenState → Prop} {n : Nat} {Pv : Nat → Value → Prop} {St : Nat → Shared → Prop} {R : Result → Shared → Prop}
    (W : WalksS P w A.in1 I fp wr G n Pv St) (S : Addr) (apart : S ∉ fp) (xs : List Str) (hn : n = xs.length) (few : Few xs) (items : ∀ i v, Pv i v → ∃ k t, xs[i]? = some k ∧ v = .str k t) :
    ∀ (m i : Nat) (s : Shared), n - i = m → i ≤ n → St i s → (∃ ks, TxS w s.heap S ks ∧ ∀ k, k ∈ ks ↔ k ∈ xs.take i) →
      (∀ s' ks, Moved (S :: wr) G s s' → TxS w s'.heap S ks → (∀ k, k ∈ ks ↔ k ∈ xs) → R (.ok (.ret .none)) s') →
      codeAny (model P w) A (.builtin "set.update.loop" ⟨[.ref S, .ref I], []⟩) R s := by
  have Sw : S ∉ wr := fun z => apart (W.sub _ z)
  have wide : ∀ b ∈ wr, b ∈ S :: wr := fun b z => List.mem_cons_of_mem _ z
  intro m
  induction m with
  | zero =>
    rintro i s hm hi st ⟨ks, T, mem⟩ hR
    obtain rfl : i = n := by omega
    refine codeAny_builtin F.entry_set_update_loop ?_
    rw [Around.under_plainId F.plain_set_update_loop _]
    show wpAny _ A.in1 (pyNext (.ref I) >>= _) _ _ s
    refine wpAny_bind (W.done s _ _ st fun s1 mv => ?_)
    have whole : xs.take i = xs := List.take_of_length_le (Nat.le_of_eq hn.symm)
    rw [whole] at mem
    exact wpAny_pure (hR s1 ks (mv.mono wide) (T.at fun o e => mv.heap S o Sw e) mem)
  | succ m ih =>
    rintro i s hm hi st ⟨ks, T, mem⟩ hR
    have lt : i < n := by omega
    refine codeAny_builtin F.entry_set_update_loop ?_
    rw [Around.under_plainId F.plain_set_update_loop _]
    show wpAny _ A.in1 (pyNext (.ref I) >>= _) _ _ s
    refine wpAny_bind (W.item i s _ _ lt st fun v s1 pv st1 mv => ?_)
    obtain ⟨z, t, hz, rfl⟩ := items i v pv
    have T1 : TxS w s1.heap S ks := T.at fun o e => mv.heap S o Sw e
    refine wpAny_bind (m := holding [Value.str z t] (setAdd S (.str z t))) (wpAny_holding ?_)
    unfold setAdd
    refine wpAny_holding (wpAny_bind ((PySem.strKind P w).pyHash (k := z) (strKind_is _ _ _ _) ?_))
    have short : ks.length < 64 := few ks (by obtain ⟨_, _, _, _, _, _, _, _, _, nd, _⟩ := T1; exact nd) fun k hk => List.mem_of_mem_take ((mem k).mp hk)
    refine tx_add (s := { s1 with toks := s1.toks + 1 }) T1 (by unfold scanBound; omega) fun h' b same T2 => ?_
    have mem2 : ∀ k, k ∈ (if z ∈ ks then ks else z :: ks) ↔ k ∈ xs.take (i + 1) := fun k => by
      rw [List.take_add_one, hz, List.mem_append, ← mem k]
      split
      · rename_i zin
        exact ⟨.inl, fun q => q.elim id fun e => by simp at e; rw [e]; exact zin⟩
      · rw [List.mem_cons]
        simp [or_comm]
    refine wpAny_pure ⟨plainId_quiet F.plain_set_update_loop _, ih (i + 1) _ (by omega) lt (W.frame _ s1 _ _ st1 (Nat.le_succ _) fun b hb o e => ?_) ⟨_, T2, mem2⟩ fun s2 k2 mv2 T3 m3 => ?_⟩
    · have ne : b ≠ S := fun q => apart (q ▸ hb)
      exact (same.2 b ne).trans e
    · refine hR s2 k2 (Moved.trans W.gtrans ((mv.mono wide).then_heap (Nat.le_succ _) fun b o hb e => ?_) mv2) T3 m3
      have ne : b ≠ S := fun q => hb (q ▸ List.mem_cons_self)
      exact (same.2 b ne).trans e
abbrev sO (w : World) : Obj := { cls := .type "set", dict := none, data := .set #[] 0 (.fresh 0 0 (!w.params.followText "set-order")) }
theorem tx_new {h : Heap} {a : Addr} (ho : h.get? a = some (sO w)) : TxS w h a [] :=
  ⟨_, #[], 0, _, ho, ⟨rfl, rfl, rfl⟩, rfl, (fun e he => nomatch he), .nil, .nil, (by decide), (by rfl), .nil, by
    show _ ∨ (!w.params.followText "set-order") = true
    cases w.params.followText "set-order"
    · exact .inr rfl
    · exact .inl rfl⟩
set_option maxHeartbeats 3200000 in
theorem call_setL {l : Addr} {items : Array Value} {xs : List Str} {Q : Value → Shared → Prop} (hh : A.handled = none) (hl : s.heap.IsList l items) (are : ∀ (i : Nat) (v : Value), items[i]? = some v → ∃ k t, xs[i]? = some k ∧ v = .str k t) (len : items.size = xs.length) (few : Few xs)
    (k : ∀ (h' : Heap) (tk : Nat) (ks : List Str), TxS w h' s.heap.objs.size ks → (∀ k, k ∈ ks ↔ k ∈ xs) → (∀ b o, s.heap.get? b = some o → h'.get? b = some o) → Q (.ref s.heap.objs.size) { s with heap := h', toks := tk }) :
    wpAny (model P w) A (call (.type "set") [.ref l]) Q E s := by
  obtain ⟨c, tl, hmro⟩ := F.called_set.mro
  have hmade := F.called_set.made
  have hsub := F.called_set.sub
  refine wpAny_call (codeAny_of_tree (wpAny_pure (a := _) ⟨Code.quiet_builtin _ (by decide +kernel), codeAny_builtin F.entry_type_call ?_⟩))
  rw [Around.under_plain (weight_type_call_type "set" [.ref l] []) rfl]
  have h1 := F.called_set.notType
  have h2 := F.called_set.canCreate
  have hct := F.typeCall_set_1 (.ref l)
  repeat (any_goals (first | assumption | wp_step))
  refine codeAny_mono (code_set_led1 (.ref l) (E := E) (Q₁ := fun v s1 => v = .ref s.heap.objs.size ∧ s1 = { s with heap := s.heap.push (sO w) }) ⟨rfl, rfl⟩) fun r s1 hr => ?_
  match r, hr with
  | .error e, hr => exact hr
  | .ok (.ret v), hr =>
    obtain ⟨rfl, rfl⟩ := hr
    have new : (s.heap.push (sO w)).get? s.heap.objs.size = some (sO w) := Heap.get?_push_size _ rfl
    have hT : Shared.TypeIs { s with heap := s.heap.push (sO w) } (.ref s.heap.objs.size) "set" := ⟨_, new, rfl⟩
    have hli := F.called_set.init.lookup
    have hbi := F.called_set.init.bind (.ref s.heap.objs.size)
    repeat (any_goals (first | assumption | wp_step))
    refine codeAny_mono (codeAny_call_builtin (R := wants (fun r s2 => r = .none ∧ ∃ h' tk ks, s2 = { s with heap := h', toks := tk } ∧ TxS w h' s.heap.objs.size ks ∧ (∀ k, k ∈ ks ↔ k ∈ xs) ∧
      (∀ b o, s.heap.get? b = some o → h'.get? b = some o)) E) F.called_set.init.plain F.entry_set_init (check_set_init_1 hT ?_)) fun r2 s2 hr2 => ?_
    · obtain ⟨ol, hol, hcl, nl, hdl⟩ := hl
      obtain ⟨ocls, odict, odata, oslots⟩ := ol
      dsimp only at hcl hdl
      subst hcl hdl
      have hol2 : (s.heap.push (sO w)).get? l = some { cls := .type "list", dict := odict, data := .seq items nl, slots := oslots } := Heap.get?_push_of_some _ hol
      have y1 := F.sub_list_set
      have y2 := F.sub_list_frozenset
      have y3 : (Value.type "list" == Value.type "dict") = false := by decide
      have hl1 : (s.heap.push (sO w)).IsList l items := ⟨_, hol2, rfl, nl, rfl⟩
      unfold Builtin.«set.__init__» noKeywords Builtin.Frozenset.updateFrom
      generalize hPI : pyIter = PI
      wp_walk
      subst hPI
      refine wpAny_pyIter_list hl1 (wpAny_bind (wpAny_runValue ?_))
      have ll : l < s.heap.objs.size := Heap.lt_size hol
      have sz : (s.heap.push (sO w)).objs.size = s.heap.objs.size + 1 := Heap.size_push ..
      have ne1 : l ≠ (s.heap.push (sO w)).objs.size := Nat.ne_of_lt (by rw [sz]; exact Nat.lt_succ_of_lt ll)
      have ne2 : s.heap.objs.size ∉ [(s.heap.push (sO w)).objs.size, l] := by
        simp only [List.mem_cons, List.not_mem_nil, or_false, not_or]
        exact ⟨Nat.ne_of_lt (by rw [sz]; exact Nat.lt_succ_self _), Nat.ne_of_gt ll⟩
      refine tx_loop ((Walks.list (by simp [hh]) _ l ne1 items).toS) s.heap.objs.size ne2 xs len few are (items.size - 0) 0 _ (by omega) (Nat.zero_le _) ⟨⟨_, Heap.get?_push_size _ rfl, rfl, rfl⟩, hl1.push _⟩
        ⟨[], tx_new (Heap.get?_push_of_some _ new), fun k => by simp⟩ fun s' ks mv T mem => ?_
      obtain ⟨h', g2, d', tk', os'⟩ := s'
      obtain rfl : g2 = s.gens := mv.gens
      obtain rfl : d' = s.drawn := mv.drawn
      obtain rfl : os' = s.os := mv.os
      show wpAny _ _ _ _ _ _
      refine wpAny_pure ?_
      show wpAny _ _ (ret Value.none) _ _ _
      refine wpAny_pure ⟨rfl, h', tk', ks, rfl, T, mem, fun b o e => ?_⟩
      have lb : b < s.heap.objs.size := Heap.lt_size e
      refine mv.heap b o ?_ (Heap.get?_push_of_some _ (Heap.get?_push_of_some _ e))
      simp only [List.mem_cons, List.not_mem_nil, or_false, not_or]
      exact ⟨Nat.ne_of_lt lb, Nat.ne_of_lt (by rw [sz]; exact Nat.lt_succ_of_lt lb)⟩
    · match r2, hr2 with
      | .error e, hr2 => exact hr2
      | .ok (.ret r), hr2 =>
        obtain ⟨rfl, h', tk, ks, rfl, T, mem, kp⟩ := hr2
        repeat (any_goals (first | assumption | wp_step))
        exact k _ _ _ T mem kp
      | .ok .next, hr2 => exact hr2.elim
      | .ok .brk, hr2 => exact hr2.elim
      | .ok .cont, hr2 => exact hr2.elim
  | .ok .next, hr => exact hr.elim
  | .ok .brk, hr => exact hr.elim
  | .ok .cont, hr => exact hr.elim
set_option maxHeartbeats 3200000 in
theorem call_setT {x : Str} {u : Tok} {Q : Value → Shared → Prop} (hh : A.handled = none) (few : Few (PyProof.Rows.signs x))
    (k : ∀ (h' : Heap) (tk : Nat) (ks : List Str), TxS w h' s.heap.objs.size ks → (∀ k, k ∈ ks ↔ k ∈ PyProof.Rows.signs x) → (∀ b o, s.heap.get? b = some o → h'.get? b = some o) → Q (.ref s.heap.objs.size) { s with heap := h', toks := tk }) :
    wpAny (model P w) A (call (.type "set") [.str x u]) Q E s := by
  obtain ⟨c, tl, hmro⟩ := F.called_set.mro
  have hmade := F.called_set.made
  have hsub := F.called_set.sub
  refine wpAny_call (codeAny_of_tree (wpAny_pure (a := _) ⟨Code.quiet_builtin _ (by decide +kernel), codeAny_builtin F.entry_type_call ?_⟩))
  rw [Around.under_plain (weight_type_call_type "set" [.str x u] []) rfl]
  have h1 := F.called_set.notType
  have h2 := F.called_set.canCreate
  have hct := F.typeCall_set_1 (.str x u)
  repeat (any_goals (first | assumption | wp_step))
  refine codeAny_mono (code_set_led1 (.str x u) (E := E) (Q₁ := fun v s1 => v = .ref s.heap.objs.size ∧ s1 = { s with heap := s.heap.push (sO w) }) ⟨rfl, rfl⟩) fun r s1 hr => ?_
  match r, hr with
  | .error e, hr => exact hr
  | .ok (.ret v), hr =>
    obtain ⟨rfl, rfl⟩ := hr
    have new : (s.heap.push (sO w)).get? s.heap.objs.size = some (sO w) := Heap.get?_push_size _ rfl
    have hT : Shared.TypeIs { s with heap := s.heap.push (sO w) } (.ref s.heap.objs.size) "set" := ⟨_, new, rfl⟩
    have hli := F.called_set.init.lookup
    have hbi := F.called_set.init.bind (.ref s.heap.objs.size)
    repeat (any_goals (first | assumption | wp_step))
    refine codeAny_mono (codeAny_call_builtin (R := wants (fun r s2 => r = .none ∧ ∃ h' tk ks, s2 = { s with heap := h', toks := tk } ∧ TxS w h' s.heap.objs.size ks ∧ (∀ k, k ∈ ks ↔ k ∈ PyProof.Rows.signs x) ∧
      (∀ b o, s.heap.get? b = some o → h'.get? b = some o)) E) F.called_set.init.plain F.entry_set_init (check_set_init_1 hT ?_)) fun r2 s2 hr2 => ?_
    · have y1 := F.sub_str_set
      have y2 := F.sub_str_frozenset
      have y3 : (Value.type "str" == Value.type "dict") = false := by decide
      have y4 : Shared.TypeIs { s with heap := s.heap.push (sO w) } (.str x u) "str" := typeIs_str _ _ _
      unfold Builtin.«set.__init__» noKeywords Builtin.Frozenset.updateFrom
      generalize hPI : pyIter = PI
      wp_walk
      subst hPI
      refine wpAny_pyIter_str fun o St walks st0 => wpAny_bind (wpAny_runValue ?_)
      have sz : (s.heap.push (sO w)).objs.size = s.heap.objs.size + 1 := Heap.size_push ..
      have ne2 : s.heap.objs.size ∉ [(s.heap.push (sO w)).objs.size] := by
        simp only [List.mem_cons, List.not_mem_nil, or_false]
        exact Nat.ne_of_lt (by rw [sz]; exact Nat.lt_succ_self _)
      have len : x.cps.size = (PyProof.Rows.signs x).length := by unfold PyProof.Rows.signs; simp
      have are : ∀ (i : Nat) (v : Value), SignAt x i v → ∃ k t, (PyProof.Rows.signs x)[i]? = some k ∧ v = .str k t := by
        rintro i v ⟨c, t, hc, rfl⟩
        exact ⟨_, t, by unfold PyProof.Rows.signs; rw [List.getElem?_map, Array.getElem?_toList, hc]; rfl, rfl⟩
      refine tx_loop ((walks _ (by simp [hh])).toS) s.heap.objs.size ne2 (PyProof.Rows.signs x) len few are (x.cps.size - 0) 0 _ (by omega) (Nat.zero_le _) st0
        ⟨[], tx_new (Heap.get?_push_of_some _ new), fun k => by simp⟩ fun s' ks mv T mem => ?_
      obtain ⟨h', g2, d', tk', os'⟩ := s'
      obtain rfl : g2 = s.gens := mv.gens
      obtain rfl : d' = s.drawn := mv.drawn
      obtain rfl : os' = s.os := mv.os
      show wpAny _ _ _ _ _ _
      refine wpAny_pure ?_
      show wpAny _ _ (ret Value.none) _ _ _
      refine wpAny_pure ⟨rfl, h', tk', ks, rfl, T, mem, fun b o e => ?_⟩
      have lb : b < s.heap.objs.size := Heap.lt_size e
      refine mv.heap b o ?_ (Heap.get?_push_of_some _ (Heap.get?_push_of_some _ e))
      simp only [List.mem_cons, List.not_mem_nil, or_false, not_or]
      exact ⟨Nat.ne_of_lt lb, Nat.ne_of_lt (by rw [sz]; exact Nat.lt_succ_of_lt lb)⟩
    · match r2, hr2 with
      | .error e, hr2 => exact hr2
      | .ok (.ret r), hr2 =>
        obtain ⟨rfl, h', tk, ks, rfl, T, mem, kp⟩ := hr2
        repeat (any_goals (first | assumption | wp_step))
        exact k _ _ _ T mem kp
      | .ok .next, hr2 => exact hr2.elim
      | .ok .brk, hr2 => exact hr2.elim
      | .ok .cont, hr2 => exact hr2.elim
  | .ok .next, hr => exact hr.elim
  | .ok .brk, hr => exact hr.elim
  | .ok .cont, hr => exact hr.elim
end
end DL

/-! DL8c: sorted(set(x)) as a rule. -/
namespace DL
open PySem PySem.Spec L2
open PyProof.Rows hiding St

section
variable {P : Program} {w : World} {A : Around} {E : Value → Shared → Prop} {s : Shared} {a : Addr} {ks : List Str}
theorem strs_of : ∀ l : List Value, (∀ v ∈ l, ∃ k u, v = Value.str k u) → ∃ ns, StrsAre l ns ∧ ns = l.map fun v => kOf (0, v)
  | [], _ => ⟨[], .nil, rfl⟩
  | v :: l, h => by
    obtain ⟨k, u, rfl⟩ := h v List.mem_cons_self
    obtain ⟨ns, g, e⟩ := strs_of l fun x hx => h x (List.mem_cons_of_mem _ hx)
    exact ⟨k :: ns, .cons k u g, by rw [e]; rfl⟩
set_option maxHeartbeats 4000000 in
theorem tx_sorted {Q : Value → Shared → Prop} (R : TxS w s.heap a ks) (hh : A.handled = none) (few : ks.length < 64)
    (k : ∀ s' p (out : Array Value) (c : Nat) (ys : List Str), (∀ b o, s.heap.get? b = some o → s'.heap.get? b = some o) → s'.gens = s.gens → s'.os = s.os → s.heap.objs.size ≤ p →
      s'.heap.get? p = some (seqObj "list" out c) → StrsAre out.toList ys → ys.Perm ks → sortedS ys = true → Q (.ref p) s') :
    wpAny (model P w) A (call (.builtin "sorted") [.ref a]) Q E s := by
  obtain ⟨o, es, ep, t, ho, hex, hd, good, pm, nd, small, fit, rises, led⟩ := R
  have size : es.size = ks.length := by
    have q := pm.length_eq
    rw [List.length_map, Array.length_toList] at q
    exact q
  refine Calls.call_function_entry kind_sorted plain_sorted entry_sorted (args_sorted1 _) ?_
  unfold Builtin.«sorted»
  refine wpAny_bind (m := checkCount "sorted" 1 1 _) (wpAny_pure (wpAny_bind (collect_set (A := A.in1) hh ⟨o, ho, hex.1, hd⟩ fit small rises led fun s1 vs kp1 hz g1 o1 p1 => ?_)))
  have lv : vs.length = ks.length := by rw [p1.length_eq, List.length_map, Array.length_toList]; exact size
  obtain ⟨ns, hS, ens⟩ := strs_of vs fun v hv => by
    obtain ⟨e, he, q⟩ := List.mem_map.mp (p1.mem_iff.mp hv)
    obtain ⟨k, u, rfl⟩ := good e he
    exact ⟨k, u, q.symm⟩
  have pn : ns.Perm ks := by
    have q := p1.map fun v => kOf (0, v)
    rw [List.map_map] at q
    rw [ens]
    exact q.trans pm
  refine wpAny_bind (wpAny_newList ?_ (by rw [lv, sizeLine_eq]; omega))
  have hl : (s1.heap.push (seqObj "list" vs.toArray 0)).get? s1.heap.objs.size = some (seqObj "list" vs.toArray 0) := Heap.get?_push_size _ rfl
  refine wpAny_bind (wpAny_holding (wpAny_call_entry slot_list_sort ⟨_, hl, rfl⟩ entry_list_sort (list_sort_treeK strKind_oneLt hl hS.keysOf (fun v1 v2 r e => keyKind_strs (by rw [← e]; exact hS)) (by rw [lv]; exact few) fun st' a1 a2 => ⟨_, rfl, ?_⟩) (args_list_sort _)))
  obtain ⟨ys, h1, h2, h3⟩ := sorted_out_str hS a1 a2
  obtain ⟨c, hc⟩ := sortedHeap_at (vs := vs) (out := _) hl
  refine wpAny_pure ⟨_, rfl, k _ s1.heap.objs.size _ c ys (fun b u e => ?_) g1 o1 hz hc h1 (h2.trans pn) h3⟩
  have q := kp1 b u e
  have lt := Heap.lt_size q
  exact (sortedHeap_old (Nat.ne_of_lt lt) (by rw [size_push']; exact Nat.lt_succ_of_lt lt)).trans (Heap.get?_push_of_some _ q)
end
def TxO (w : World) (a : Addr) (ks : List Str) : HO := .ext fun h => TxS w h a ks
theorem txO_new {w : World} {P : Program} {H : Hp} {h : Heap} {a : Addr} {ks : List Str} (R : TxS w h a ks) : ObjOk P w H h a (TxO w a ks) := by
  have ⟨o, _, _, _, ho, _⟩ := R
  exact ⟨R, ⟨o, ho⟩, fun h1 h2 p k => TxS.at p k⟩
theorem TxS.nodup {w : World} {h : Heap} {a : Addr} {ks : List Str} (R : TxS w h a ks) : ks.Nodup := by
  obtain ⟨_, _, _, _, _, _, _, _, _, nd, _⟩ := R
  exact nd
section
variable {X : Cx} {Y : KJ X.K}
def rSetTx (K : PySem.W.Frag) (w : World) : List V → Hp → VK → Prop := fun vs H Q => ∃ v xs, vs = [v] ∧ ((∃ x, v = .str x ∧ xs = PyProof.Rows.signs x) ∨ ∃ l, v = .ref l ∧ SqL K H l (xs.map V.str)) ∧ Few xs ∧
  ∀ p ks, H p = none → ks.Nodup → (∀ k, k ∈ ks ↔ k ∈ xs) → Q (.ref p) (upd H p (TxO w p ks))
theorem strsA : ∀ {xs : List Str} {us : List Value}, Vals (xs.map V.str) us → StrsAre us xs
  | [], _, .nil => .nil
  | x :: xs, _, .cons h t => by
    obtain ⟨u, rfl⟩ := h
    exact .cons x u (strsA t)
theorem strsA_at : ∀ {xs : List Str} {us : List Value}, Vals (xs.map V.str) us → ∀ (i : Nat) (v : Value), us[i]? = some v → ∃ k t, xs[i]? = some k ∧ v = .str k t
  | [], _, .nil, i, v, h => by simp at h
  | x :: xs, _, .cons ⟨u, e⟩ t, 0, v, h => by
    simp at h
    exact ⟨x, u, rfl, by rw [← h]; exact e⟩
  | x :: xs, _, .cons _ t, i + 1, v, h => strsA_at t i v h
theorem cr_setTx (hc : X.calm = true) : CallR X (.type "set") (rSetTx X.K X.w) := by
  intro pins s σ H vs us Q I r h
  obtain ⟨v, xs, rfl, src, few, q⟩ := h
  rcases src with ⟨x, rfl, rfl⟩ | ⟨l, rfl, hl⟩
  · obtain ⟨u, rfl, ⟨t, rfl⟩⟩ := vals1 r
    refine call_setT (I.ok.hd hc) few fun h' tk ks T mem keep => ?_
    exact ⟨.ref _, upd H s.heap.objs.size (TxO X.w s.heap.objs.size ks), I.laid (t' := tk) keep (Nat.le_refl _) (txO_new T), rfl, q _ ks (I.hok.fresh (Nat.le_refl _)) T.nodup mem⟩
  · obtain ⟨its, rv, pl, _⟩ := I.list hl
    have sa : StrsAre its xs := strsA rv
    rw [Vals.ref1 r]
    refine call_setL (I.ok.hd hc) pl.isList (xs := xs) (fun i v hv => ?_) (by rw [List.size_toArray]; exact StrsAre.len_eq sa) few fun h' tk ks T mem keep => ?_
    · exact strsA_at rv i v (by simpa using hv)
    · exact ⟨.ref _, upd H s.heap.objs.size (TxO X.w s.heap.objs.size ks), I.laid (t' := tk) keep (Nat.le_refl _) (txO_new T), rfl, q _ ks (I.hok.fresh (Nat.le_refl _)) T.nodup mem⟩
def rSortTx (w : World) : List V → Hp → VK → Prop := fun vs H Q => ∃ a ks, vs = [V.ref a] ∧ H a = some (TxO w a ks) ∧ ks.length < 64 ∧
  ∀ (ys : List Str) (p : Addr), ys.Perm ks → sortedS ys = true → H p = none → Q (.ref p) (upd H p (.lst (ys.map V.str)))
theorem cr_sortTx (hc : X.calm = true) : CallR X (.builtin "sorted") (rSortTx X.w) := by
  intro pins s σ H vs us Q I r h
  obtain ⟨a, ks, rfl, ha, few, q⟩ := h
  have R : TxS X.w s.heap a ks := (I.hok a _ ha).1
  rw [Vals.ref1 r]
  refine tx_sorted R (I.ok.hd hc) few fun s1 p out c ys keep gens os hp hg are perm sorted => ?_
  have fits : (ys.map V.str).length ≤ sizeLine := by rw [List.length_map, perm.length_eq, sizeLine_eq]; omega
  have none1 : H p = none := I.hok.fresh hp
  have J : Inv X pins σ (upd H p (.lst (ys.map V.str))) { s with heap := s1.heap, gens := s1.gens, drawn := s1.drawn, toks := s1.toks } :=
    I.call (ch := []) (Un.laid keep hp none1) (I.hok.laid keep hp ⟨fits, out.toList, c, vals_of_strs are, hg⟩) (by rw [gens]; exact I.bare) (fun _ z => nomatch z)
  have e : s1 = { s with heap := s1.heap, gens := s1.gens, drawn := s1.drawn, toks := s1.toks } := by
    cases s1; cases s; cases os; rfl
  rw [e]
  exact ⟨.ref p, _, J, rfl, q ys p perm sorted none1⟩
/-- sorted(set(x)), x a text or a list of texts -/
def dSortSet (fz : Bool) (t : DTE) : DTE := fun ρ M Q => t ρ M fun d M1 => ∃ xs : List Str, ((∃ x, d = .str x ∧ xs = PyProof.Rows.signs x) ∨ lstOf M1 d = some (xs.map DL.D.str)) ∧ Few xs ∧
  ∀ ys : List Str, ys.Nodup → (∀ k, k ∈ ys ↔ k ∈ xs) → sortedS ys = true → newL fz (ys.map DL.D.str) M1 Q
variable {e : Expr} {t : DTE} {p p1 p2 pos : Pos}
theorem de_sortSet (fz : Bool) (m1 : X.mg "sorted" = none) (m2 : X.mg "set" = none) (he : DE X Y e t) (hc : X.calm = true := by rfl) (g1 : Gl X "sorted" := by rfl) (g2 : Gl X "set" := by rfl)
    (na : starEach [e] X.env = (false, eval e X.env) :: starEach [] X.env := by rfl) (nb : (backTo p2 (starEach [] X.env)).any (·.1) = false := by rfl)
    (na2 : starEach [.Call (.Name "set" p1) [e] [] p2] X.env = (false, eval (.Call (.Name "set" p1) [e] [] p2) X.env) :: starEach [] X.env := by rfl) (nb2 : (backTo pos (starEach [] X.env)).any (·.1) = false := by rfl) :
    DE X Y (.Call (.Name "sorted" p) [.Call (.Name "set" p1) [e] [] p2] [] pos) (dSortSet fz t) := by
  have b1 : bootBuiltins "sorted" = some (.builtin "sorted") := by decide +kernel
  have b2 : bootBuiltins "set" = some (.type "set") := by decide +kernel
  refine PE.weak (pe_callB (cr_sortTx hc) g1 m1 b1 (pa_cons (pe_callTy (cr_setTx hc) g2 m2 b2 (pa_cons he pa_nil na) (by decide) (by decide) na nb) pa_nil na2) (by decide) (by decide) na2 nb2) ?_
  rintro σ H Q0 ⟨F, M, ρ, Q, rs, rl, q, k⟩
  refine ⟨F, M, ρ, _, rs, rl, q, fun v d F1 M1 H1 s1 rp ⟨xs, src, few, q1⟩ => ?_⟩
  have go : ∀ p ks, H1 p = none → ks.Nodup → (∀ k, k ∈ ks ↔ k ∈ xs) → rSortTx X.w [.ref p] (upd H1 p (TxO X.w p ks)) Q0 := by
    intro p ks hp nd mem
    have s2 := s1.rel.newF hp (TxO X.w p ks)
    refine ⟨p, ks, rfl, upd_same, few ks nd fun k hk => (mem k).mp hk, fun ys p' pm so hp' => ?_⟩
    have g := q1 ys (pm.nodup_iff.mpr nd) (fun k => (pm.mem_iff).trans (mem k)) so
    exact newL_ok s2.rel (of_strs ys) g (fun v z F' M' H' s3 => k v z F' M' H' ((s1.trans s2).trans s3)) p' hp'
  rcases src with ⟨x, rfl, rfl⟩ | src
  · cases rp
    exact ⟨_, _, rfl, .inl ⟨x, rfl, rfl⟩, few, go⟩
  · obtain ⟨a, vs, rfl, h1, ra⟩ := lstOf_rp s1.rel rp src
    rw [rp_strs ra] at h1
    exact ⟨_, xs, rfl, .inr ⟨a, rfl, h1⟩, few, go⟩
end
end DL

/-! DL11: x[::-1]; a constant dict of numbers by texts. -/
namespace DL
open PySem PySem.Spec L2
open PyProof.Rows hiding St

section
variable {X : Cx} {Y : KJ X.K} {pos p p1 p2 p3 : Pos} {a b e st : Expr} {t u : DTE}
def rRev (fz : Bool) : DL.D → Mp → DK → Prop
  | .str z, M, Q => z.length ≤ sizeLine ∧ Q (.str (revT z)) M
  | .tup xs, M, Q => Q (.tup xs.reverse) M
  | x, M, Q => ∃ xs, lstOf M x = some xs ∧ newL fz xs.reverse M Q
def dRevS (fz : Bool) (t : DTE) : DTE := fun ρ M Q => t ρ M fun d M1 => rRev fz d M1 Q
theorem Sl3R.or {l h k : Option Int} {r1 r2 : V → Hp → VK → Prop} (a : Sl3R X l h k r1) (b : Sl3R X l h k r2) : Sl3R X l h k (fun x H Q => r1 x H Q ∨ r2 x H Q) := by
  intro pins s σ H x v vl vu vs sl Q I rx hs pl pu ps q
  rcases q with q | q
  · exact a pins s σ H x v vl vu vs sl Q I rx hs pl pu ps q
  · exact b pins s σ H x v vl vu vs sl Q I rx hs pl pu ps q
theorem de_revS (fz : Bool) {kd : Nat} (he : DE X Y e t) : DE X Y (.Subscript e (.Slice none none (some (.UnaryOp .USub (.Constant (.int 1) kd p1) p3)) p2) pos) (dRevS fz t) := by
  have hst : PO X (some (.UnaryOp .USub (.Constant (.int 1) kd p1) p3)) (fun _ H Q => Q (some (-1)) H) := by
    refine ⟨fun pins s σ H Q I q => ?_⟩
    exact (po_some (pe_un un_neg pe_int)).run pins s σ H Q I ⟨1, rfl, -1, rfl, q⟩
  have hl : Sl3R X none none (some (-1)) (fun x H Q => ∃ a xs, x = .ref a ∧ SqL X.K H a xs ∧ ∀ p, H p = none → Q (.ref p) (upd H p (.lst xs.reverse))) :=
    sl3_list (f := List.reverse) (g := List.reverse) (by decide) (fun its => PySem.W.krv_pick its.toArray) (fun r => r.reverse) (fun vs => by rw [List.length_reverse]; exact Nat.le_refl _)
  refine PE.weak (pe_slice3 (hl.or ((sl3_tupB (Y := Y)).or (sl3_strB (Y := Y)))) he po_n po_n hst) ?_
  rintro σ H Q0 ⟨F, M, ρ, Q, rs, rl, q, k⟩
  refine ⟨F, M, ρ, _, rs, rl, q, fun v d F1 M1 H1 s1 rp q1 => ?_⟩
  have k1 : ∀ v d F' M' H', Stp Y F1 M1 H1 F' M' H' → Rp X.K F' v d → Q d M' → Q0 v H' := fun v d F' M' H' s => k v d F' M' H' (s1.trans s)
  unfold rRev at q1
  split at q1
  · cases rp
    exact .inr (.inr ⟨_, rfl, q1.1, k1 _ _ F1 M1 H1 (Stp.refl s1.rel) (.str _) q1.2⟩)
  · cases rp with
    | tup sq ra =>
      exact .inr (.inl ⟨_, _, rfl, Same.tseq s1.rel.sub sq, fun p hp => newT_ok s1.rel ra.reverse q1 k1 p hp⟩)
  · obtain ⟨xs, e1, q1⟩ := q1
    obtain ⟨p, vs, rfl, h1, ra⟩ := lstOf_rp s1.rel rp e1
    exact .inl ⟨p, vs, rfl, h1, fun p hp => newL_ok s1.rel ra.reverse q1 k1 p hp⟩

/-! ### a constant dict -/
def kvE (kvs : List (Str × Int)) : List (TE × TE) := kvs.map fun kv => (tC (.str kv.1), tC (.int kv.2))
def kvV (kvs : List (Str × Int)) : List (Key × V) := kvs.map fun kv => (Sum.inr kv.1, V.int kv.2)
theorem tp_const {σ : St} {H : Hp} : ∀ {kvs : List (Str × Int)} {Q : List (V × V) → Hp → Prop}, Q (kvs.map fun kv => (V.str kv.1, V.int kv.2)) H → tPairs (kvE kvs) σ H Q
  | [], _, h => h
  | kv :: kvs, Q, h => tp_const (kvs := kvs) (Q := fun ps H3 => Q ((V.str kv.1, V.int kv.2) :: ps) H3) h
def dDictC (kvs : List (Str × Int)) : DTE := dC (.dct (kvs.map fun kv => Sum.inr kv.1) (kvs.map fun kv => .int kv.2))
theorem zip_kvV : ∀ kvs : List (Str × Int), (kvs.map fun kv => (Sum.inr kv.1 : Key)).zip (kvs.map fun kv => V.int kv.2) = kvV kvs
  | [] => rfl
  | kv :: kvs => by
    rw [List.map_cons, List.map_cons, List.zip_cons_cons, zip_kvV kvs]
    rfl
theorem of_kvV {K : PySem.W.Frag} {F : Hp} : ∀ kvs : List (Str × Int), RpAll K F (kvs.map fun kv => V.int kv.2) (kvs.map fun kv => D.int kv.2)
  | [] => .nil
  | kv :: kvs => .cons (.int _) (of_kvV kvs)
theorem de_dictC {keys : List (Option Expr)} {values : List Expr} (kvs : List (Str × Int)) (h : PPs X pos keys values (kvE kvs)) (hm : mergeK [] (kvV kvs) = kvV kvs) (hall : keys.all (·.isSome) = true := by rfl) (hl : keys.length = values.length := by rfl) (h0 : keys ≠ [] := by simp)
    (h15 : keys.length ≤ 15 := by decide) (few : kvs.length ≤ 15 := by decide) : DE X Y (.Dict keys values pos) (dDictC kvs) := by
  refine PE.weak (pe_disp h hall hl h0 h15) ?_
  rintro σ H Q0 ⟨F, M, ρ, Q, rs, rl, q, k⟩
  intro p hp
  refine tp_const ⟨upd_same, kvV kvs, ?_, by unfold kvV; rw [List.length_map]; exact few, ?_⟩
  · unfold kvV; rw [List.map_map]; rfl
  · rw [hm, L2.upd_upd]
    have s1 := rl.newF hp (.dK (kvV kvs))
    refine k _ _ _ M _ s1 (.dct (ks := kvs.map fun kv : Str × Int => (Sum.inr kv.1 : Key)) (xs := kvs.map fun kv : Str × Int => V.int kv.2) ?_ (by rw [List.length_map, List.length_map]) (of_kvV kvs)) q
    rw [zip_kvV]; exact upd_same
/-- what stands behind a key -/
def lkD (k : Int ⊕ Str) : List (Int ⊕ Str) → List DL.D → Option DL.D
  | j :: ks, d :: ds => if j = k then some d else lkD k ks ds
  | _, _ => none
theorem lk_rp {K : PySem.W.Frag} {F : Hp} (k : Key) : ∀ {ks : List Key} {vs : List V} {ds : List DL.D}, RpAll K F vs ds → ks.length = vs.length →
    (lkD k ks ds = none ∧ valV (ks.zip vs) k = none) ∨ ∃ d v, lkD k ks ds = some d ∧ valV (ks.zip vs) k = some v ∧ Rp K F v d
  | [], _, _, .nil, _ => .inl ⟨rfl, rfl⟩
  | _ :: _, _, _, .nil, h => by simp at h
  | [], _, _, .cons _ _, h => by simp at h
  | j :: ks, v :: vs, d :: ds, .cons a b, h => by
    by_cases e : j = k
    · exact .inr ⟨d, v, if_pos e, valV_pos e, a⟩
    · rcases lk_rp k (ks := ks) b (by simpa using h) with ⟨h1, h2⟩ | ⟨d', v', h1, h2, h3⟩
      · exact .inl ⟨(if_neg e).trans h1, (valV_neg e).trans h2⟩
      · exact .inr ⟨d', v', (if_neg e).trans h1, (valV_neg e).trans h2, h3⟩
def rInDk (neg : Bool) : RD2
  | .str x, .dct ks ds, M, Q => Q (.bl (if neg = true then !(lkD (.inr x) ks ds).isSome else (lkD (.inr x) ks ds).isSome)) M
  | _, _, _, _ => False
def rGetDk : RD2
  | .dct ks ds, .str x, M, Q => ∃ d, lkD (.inr x) ks ds = some d ∧ Q d M
  | _, _, _, _ => False
theorem can_inK {neg : Bool} {σ : St} {H : Hp} {Q0 : VK} (q : canE Y (dOp (rInDk neg) t u) σ H Q0) : canE Y t σ H fun y H1 => canE Y u σ H1 fun x H2 => ∃ a o, x = .ref a ∧ DGet H2 a y o ∧ Q0 (.bl (if neg = true then !o.isSome else o.isSome)) H2 := by
  obtain ⟨F, M, ρ, Q, rs, rl, q, k⟩ := q
  refine ⟨F, M, ρ, _, rs, rl, q, fun y d F1 M1 H1 s1 rp1 q1 => ?_⟩
  refine ⟨F1, M1, ρ, _, rs.mono s1.same, s1.rel, q1, fun x e F2 M2 H2 s2 rp2 q2 => ?_⟩
  unfold rInDk at q2
  split at q2
  · cases rp1
    cases rp2 with
    | dct at1 len ra =>
      refine ⟨_, _, rfl, .inl ⟨_, Sum.inr _, .inl (s2.rel.sub _ _ at1), rfl, rfl⟩, ?_⟩
      have k1 := k _ _ F2 M2 H2 (s1.trans s2) (.bl _) q2
      rcases lk_rp (Sum.inr _) ra len with ⟨h1, h2⟩ | ⟨d', v', h1, h2, h3⟩
      · rw [h1] at k1; rw [h2]; exact k1
      · rw [h1] at k1; rw [h2]; exact k1
  · exact q2.elim
theorem dt_cmpK {n : Nat} (hr : Room n X.A) (ha : DE X Y a t) (hb : DE X Y b u) (hm : behindInMarks .In b = false) : DT X Y (.Compare a [.In] [b] pos) (dB (dOp (rInDk false) t u)) := by
  have hu := hr.units
  refine PT.weak (pt_cmp (pc_din (by omega) ha hb) hm) ?_
  rintro σ H Q0 ⟨F, M, ρ, Q, rs, rl, q, k⟩
  refine can_inK (neg := false) (Q0 := fun x H1 => ∃ c, x = V.bl c ∧ Q0 c H1) ⟨F, M, ρ, _, rs, rl, q, fun v d F1 M1 H1 s1 rp ⟨c, e, q1⟩ => ?_⟩
  subst e
  cases rp
  exact ⟨c, rfl, k c F1 M1 H1 s1 q1⟩
theorem dt_cmpKN {n : Nat} (hr : Room n X.A) (ha : DE X Y a t) (hb : DE X Y b u) (hm : behindInMarks .NotIn b = false) : DT X Y (.Compare a [.NotIn] [b] pos) (dB (dOp (rInDk true) t u)) := by
  have hu := hr.units
  refine PT.weak (pt_cmp (pc_dnotin (by omega) ha hb) hm) ?_
  rintro σ H Q0 ⟨F, M, ρ, Q, rs, rl, q, k⟩
  refine can_inK (neg := true) (Q0 := fun x H1 => ∃ c, x = V.bl c ∧ Q0 c H1) ⟨F, M, ρ, _, rs, rl, q, fun v d F1 M1 H1 s1 rp ⟨c, e, q1⟩ => ?_⟩
  subst e
  cases rp
  exact ⟨c, rfl, k c F1 M1 H1 s1 q1⟩
theorem de_getK {n : Nat} (hr : Room n X.A) (ha : DE X Y a t) (hb : DE X Y b u) (hs : NoSl b := by exact fun _ _ => rfl) : DE X Y (.Subscript a b pos) (dOp rGetDk t u) := by
  have hu := hr.units
  refine PE.weak (pe_dget (by omega) ha hb hs) ?_
  rintro σ H Q0 ⟨F, M, ρ, Q, rs, rl, q, k⟩
  refine ⟨F, M, ρ, _, rs, rl, q, fun x d F1 M1 H1 s1 rp1 q1 => ?_⟩
  refine ⟨F1, M1, ρ, _, rs.mono s1.same, s1.rel, q1, fun y e F2 M2 H2 s2 rp2 q2 => ?_⟩
  unfold rGetDk at q2
  split at q2
  · obtain ⟨d', e1, q2⟩ := q2
    cases rp2
    cases rp1 with
    | dct at1 len ra =>
      rcases lk_rp (Sum.inr _) ra len with ⟨h1, h2⟩ | ⟨d2, v2, h1, h2, h3⟩
      · rw [e1] at h1; cases h1
      · rw [e1] at h1; cases h1
        exact ⟨_, v2, rfl, .inl ⟨_, Sum.inr _, .inl (s2.rel.sub _ _ (s2.same _ _ at1)), rfl, h2.symm⟩, k _ _ F2 M2 H2 (s1.trans s2) (h3.mono s2.same) q2⟩
  · exact q2.elim
end
end DL

/-! DL12: readings of comprehensions and loops by invariants; promises weakened. -/
namespace DL
open PySem PySem.Spec L2
open PyProof.Rows hiding St

/-- each item gives its own value, nothing else happens -/
theorem lc_map {g : DTG} {tt : DTT} {te : DTE} {G : Mp → Prop} {ρ : Rho} {k : List DL.D → Mp → Prop} {M : Mp} (f : DL.D → DL.D) (hG : G M) : ∀ (xs acc : List DL.D),
    (∀ x ∈ xs, ∀ (K1 : DK) (K2 : Mp → Prop), K1 (f x) M → g x ρ M fun ρ2 M2 => tt ρ2 M2 fun b M3 => if b = true then te ρ2 M3 K1 else K2 M3) →
    acc.length + xs.length ≤ sizeLine → k (acc ++ xs.map f) M → lcW g tt te G ρ k xs acc M
  | [], acc, _, _, h => ⟨hG, by simpa using h⟩
  | x :: xs, acc, step, hz, h => by
    refine ⟨hG, step x List.mem_cons_self _ _ ⟨by rw [List.length_cons] at hz; omega, ?_⟩⟩
    exact lc_map f hG xs (acc ++ [f x]) (fun y hy => step y (List.mem_cons_of_mem _ hy)) (by rw [List.length_append]; simp at hz ⊢; omega) (by simpa using h)
/-- the state moves along I, each value has P -/
theorem lc_inv {g : DTG} {tt : DTT} {te : DTE} {G : Mp → Prop} {ρ : Rho} {k : List DL.D → Mp → Prop} (I : Nat → Mp → Prop) (P : DL.D → Prop) (hG : ∀ n M, I n M → G M) : ∀ (xs acc : List DL.D) (M : Mp), I acc.length M → (∀ d ∈ acc, P d) →
    (∀ x ∈ xs, ∀ n M, I n M → n < acc.length + xs.length → ∀ (K1 : DK) (K2 : Mp → Prop), (∀ d M', P d → I (n + 1) M' → K1 d M') → g x ρ M fun ρ2 M2 => tt ρ2 M2 fun b M3 => if b = true then te ρ2 M3 K1 else K2 M3) →
    acc.length + xs.length ≤ sizeLine → (∀ ds M', ds.length = acc.length + xs.length → (∀ d ∈ ds, P d) → I ds.length M' → k ds M') → lcW g tt te G ρ k xs acc M
  | [], acc, M, i, p, _, _, h => ⟨hG _ _ i, h acc M (by simp) p i⟩
  | x :: xs, acc, M, i, p, step, hz, h => by
    refine ⟨hG _ _ i, step x List.mem_cons_self _ _ i (by simp) _ _ fun d M' pd i' => ⟨by rw [List.length_cons] at hz; omega, ?_⟩⟩
    refine lc_inv I P hG xs (acc ++ [d]) M' (by simpa using i') ?_ (fun y hy n M i hn => step y (List.mem_cons_of_mem _ hy) n M i (by simp at hn ⊢; omega)) (by rw [List.length_append]; simp at hz ⊢; omega) (fun ds M2 e q j => h ds M2 (by rw [e]; simp; omega) q j)
    intro d' hd'
    rcases List.mem_append.mp hd' with z | z
    · exact p d' z
    · rw [List.mem_singleton.mp z]; exact pd
/-- a for loop along I -/
theorem for_inv {g : DTG} {tb : DTS} {D : DEnds} {G : Mp → Prop} (I : Nat → Rho → Mp → Prop) (hG : ∀ n ρ M, I n ρ M → G M) : ∀ (xs : List DL.D) (n : Nat) (ρ : Rho) (M : Mp), I n ρ M →
    (∀ x ∈ xs, ∀ m ρ M, I m ρ M → m < n + xs.length → ∀ N : Rho → Mp → Prop, (∀ ρ' M', I (m + 1) ρ' M' → N ρ' M') → g x ρ M fun ρ2 M2 => tb { D with nx := N, ct := N, bk := D.nx } ρ2 M2) →
    (∀ ρ' M', I (n + xs.length) ρ' M' → D.nx ρ' M') → forW g tb D G xs ρ M
  | [], n, ρ, M, i, _, h => ⟨hG _ _ _ i, h ρ M (by simpa using i)⟩
  | x :: xs, n, ρ, M, i, step, h => by
    refine ⟨hG _ _ _ i, step x List.mem_cons_self n ρ M i (by simp) _ fun ρ' M' i' => ?_⟩
    exact for_inv I hG xs (n + 1) ρ' M' i' (fun y hy m ρ M j hm => step y (List.mem_cons_of_mem _ hy) m ρ M j (by simp at hm ⊢; omega)) fun ρ2 M2 j => h ρ2 M2 (by simpa [Nat.add_assoc, Nat.add_comm 1] using j)
/-- what stands in M1 beside M2 is forgotten -/
theorem StpR.forget {K : PySem.W.Frag} {T : TT8} {F F1 : Hp} {M M1 M2 : Mp} {H H1 : Hp} (s : StpR K T F M H F1 M1 H1) (h : ∀ a m, M2 a = some m → M1 a = some m) : StpR K T F M H F1 M2 H1 := by
  refine ⟨s.same, ⟨s.rel.sub, fun a m q => s.rel.mt a m (h a m q), s.rel.nt⟩, fun a o q f m n => ?_, s.tab⟩
  obtain ⟨h1, h2, h3⟩ := s.fr a o q f m n
  refine ⟨h1, h2, ?_⟩
  cases e : M2 a with
  | none => rfl
  | some m2 => rw [h a m2 e] at h3; cases h3
def SubM (M M' : Mp) : Prop := ∀ a m, M a = some m → M' a = some m
theorem SubM.refl (M : Mp) : SubM M M := fun _ _ h => h
theorem SubM.mu {M M' : Mp} (h : SubM M M') {a : Addr} (ha : M a = none) (o : MO) : SubM M (mu M' a o) := fun b m e => by
  have ne : b ≠ a := fun q => by rw [q, ha] at e; cases e
  rw [mu_ne ne]; exact h b m e
theorem SubM.md {M M' : Mp} (h : SubM M M') {a : Addr} (ha : M a = none) : SubM M (md M' a) := fun b m e => by
  have ne : b ≠ a := fun q => by rw [q, ha] at e; cases e
  unfold DL.md; rw [if_neg ne]; exact h b m e
theorem Cal.weak {P : Program} {w : World} {K : PySem.W.Frag} {T : TT8} {mg : Str → Option Value} {base : Heap} {k : Nat} {x : Str} {es : List DL.D} {sp1 sp2 : DSp} (C : Cal P w K T mg base k x es sp1)
    (h : ∀ ds M Q E, sp2 ds M Q E → sp1 ds M (fun d M1 => ∃ M2, SubM M2 M1 ∧ Q d M2) fun x v M1 => ∃ M2, SubM M2 M1 ∧ E x v M2) : Cal P w K T mg base k x es sp2 := by
  obtain ⟨f, fd, ps, dvs, us, G, m, kp, b, vd, rd⟩ := C.ex
  have w : ∀ vs H Q0 E0, lift K T sp2 vs H Q0 E0 → lift K T sp1 vs H Q0 E0 := by
    rintro vs H Q0 E0 ⟨ds, F, M, Q, E, rp, rl, tb, q, k, ke⟩
    refine ⟨ds, F, M, _, _, rp, rl, tb, h ds M Q E q, fun v d F' M' H' s r ⟨M2, sub, q2⟩ => k v d F' M2 H' (s.forget sub) r q2, fun x v cls d F' M' H' s r ⟨M2, sub, q2⟩ => ke x v cls d F' M2 H' (s.forget sub) r q2⟩
  exact ⟨f, fd, ps, dvs, us, ⟨fun z => G.many (w _ _ _ _ z), fun r g e b v z => G.go r g e b v (w _ _ _ _ z)⟩, m, kp, b, vd, rd⟩
theorem dcal {P : Program} {w : World} {K : PySem.W.Frag} {T : TT8} {mg : Str → Option Value} {base : Heap} {x qual : Str} {st : Stmt} {N ps : List Str} {es : List DL.D} {k : Nat} {sp : DSp} (h : Has K mg x qual st ps es) (S : FnScope N ps (defScope st)) {t : DXK → DTS}
    (body : ∀ f, DBody P w K T mg base k N qual st f t) (read : ∀ ds M Q E, sp ds M Q E → ds.length = ps.length ∧ t E { nx := fun _ M' => Q .non M', rt := Q } (dstart N ds) M) : Cal P w K T mg base (k + 1) x es sp := by
  obtain ⟨f, oc, od, dV, kV, doc, pm, an, cdv, ct, osl, us, dvs, lk, hcd, kp, m, b, vd, rd⟩ := h.ex
  exact ⟨f, _, ps, dvs, us, dgn lk hcd S (body f) read, m, kp, b, vd, rd⟩
/-- nothing can be asked of it -/
theorem Cal.none {P : Program} {w : World} {K : PySem.W.Frag} {T : TT8} {mg : Str → Option Value} {base : Heap} {x qual : Str} {st : Stmt} {ps : List Str} {es : List DL.D} {sp : DSp} (h : Has K mg x qual st ps es) (no : ∀ ds M Q E, ¬ sp ds M Q E) : Cal P w K T mg base 0 x es sp := by
  obtain ⟨f, oc, od, dV, kV, doc, pm, an, cdv, ct, osl, us, dvs, lk, hcd, kp, m, b, vd, rd⟩ := h.ex
  refine ⟨f, _, ps, dvs, us, ⟨?_, ?_⟩, m, kp, b, vd, rd⟩
  · rintro vs H Q E0 ⟨ds, F, M, Q, E, rp, _, _, q, _⟩
    exact (no _ _ _ _ q).elim
  · rintro A outer s H args us vs Q E0 _ _ _ _ _ ⟨ds, F, M, Q, E, rp, _, _, q, _⟩
    exact (no _ _ _ _ q).elim
/-! ### what the top has left -/
def Dfn (K : PySem.W.Frag) (x : Str) (st : Stmt) : Prop := ∃ (f : Addr) (oc : Value) (od : Option Addr) (kV doc pm : Value) (an : Option Addr) (cd ct : Value) (osl : Array (Option Value)),
  PySem.W.nsIn K mainGlobals x = some (some (.ref f)) ∧ K.lookup f = some ⟨oc, od, .func (PySem.W.fnOf x x (defArgs st) (defBody st) (defScope st) .none kV doc pm an cd ct), osl⟩ ∧ PySem.W.codeIn K cd x = true ∧ PySem.W.keepIn K (.ref f) = true
section
variable {K : PySem.W.Frag} {h : Heap} {mg : Str → Option Value} {x : Str} {st : Stmt} {f : Addr} {oc : Value} {od : Option Addr} {kV doc pm : Value} {an : Option Addr} {cd ct : Value} {osl : Array (Option Value)}
theorem dfn_mk (a : PySem.W.nsIn K mainGlobals x = some (some (.ref f))) (l : K.lookup f = some ⟨oc, od, .func (PySem.W.fnOf x x (defArgs st) (defBody st) (defScope st) .none kV doc pm an cd ct), osl⟩) (c : PySem.W.codeIn K cd x = true) (k : PySem.W.keepIn K (.ref f) = true) : Dfn K x st :=
  ⟨f, oc, od, kV, doc, pm, an, cd, ct, osl, a, l, c, k⟩
theorem has_of (X : K.In h) (G : h.Ns mainGlobals mg) {ps : List Str} (D : Dfn K x st)
    (b : ∀ (kV doc pm : Value) (an : Option Addr) (cd ct : Value) (us : List Value), us.length = ps.length → bindArgs (PySem.W.fnOf x x (defArgs st) (defBody st) (defScope st) .none kV doc pm an cd ct) ⟨us, []⟩ = pure (ps.zip us)) : Has K mg x x st ps [] := by
  obtain ⟨f, oc, od, kV, doc, pm, an, cd, ct, osl, a, l, c, k⟩ := D
  exact ⟨f, oc, od, .none, kV, doc, pm, an, cd, ct, osl, [], [], l, c, k, PySem.W.mg_of X G a, .all (b kV doc pm an cd ct), .nil, fun F => .nil⟩
/-- a def with one default, asked with all its arguments -/
def DfnT (K : PySem.W.Frag) (x : Str) (st : Stmt) : Prop := ∃ (f : Addr) (oc : Value) (od : Option Addr) (T : Addr) (o : Obj) (u : Value) (n : Nat) (kV doc pm : Value) (an : Option Addr) (cd ct : Value) (osl : Array (Option Value)),
  PySem.W.nsIn K mainGlobals x = some (some (.ref f)) ∧ K.lookup f = some ⟨oc, od, .func (PySem.W.fnOf x x (defArgs st) (defBody st) (defScope st) (.ref T) kV doc pm an cd ct), osl⟩ ∧ PySem.W.codeIn K cd x = true ∧ PySem.W.keepIn K (.ref f) = true ∧ K.lookup T = some o ∧ o.data = .seq [u].toArray n
theorem dfnT_mk {T : Addr} {c2 : Value} {d2 : Option Addr} {u : Value} {n : Nat} {s2 : Array (Option Value)} (a : PySem.W.nsIn K mainGlobals x = some (some (.ref f))) (l : K.lookup f = some ⟨oc, od, .func (PySem.W.fnOf x x (defArgs st) (defBody st) (defScope st) (.ref T) kV doc pm an cd ct), osl⟩) (c : PySem.W.codeIn K cd x = true) (k : PySem.W.keepIn K (.ref f) = true)
    (lT : K.lookup T = some ⟨c2, d2, .seq #[u] n, s2⟩) : DfnT K x st := ⟨f, oc, od, T, _, u, n, kV, doc, pm, an, cd, ct, osl, a, l, c, k, lT, rfl⟩
theorem hasT_of (X : K.In h) (G : h.Ns mainGlobals mg) {ps : List Str} (D : DfnT K x st)
    (b : ∀ (T : Addr) (kV doc pm : Value) (an : Option Addr) (cd ct : Value) (us its : List Value), us.length = ps.length → its.length = 1 →
      ∃ k, bindArgs (PySem.W.fnOf x x (defArgs st) (defBody st) (defScope st) (.ref T) kV doc pm an cd ct) ⟨us, []⟩ = seqItems? (.ref T) >>= k ∧ k (some its.toArray) = pure (ps.zip us)) : Has K mg x x st ps [] := by
  obtain ⟨f, oc, od, T, o, u, n, kV, doc, pm, an, cd, ct, osl, a, l, c, k, lT, oT⟩ := D
  refine ⟨f, oc, od, .ref T, kV, doc, pm, an, cd, ct, osl, [], [], l, c, k, PySem.W.mg_of X G a, fun s us X2 hl => ?_, .nil, fun F => .nil⟩
  rw [List.append_nil] at hl ⊢
  obtain ⟨kk, e1, e2⟩ := b T kV doc pm an cd ct us [u] hl rfl
  refine BindsTo.of_looks fun M => ?_
  rw [e1]
  exact looks_items X2 lT oT (.of_pure e2)
theorem glob_str (X : K.In h) (G : h.Ns mainGlobals mg) {y : Str} {t : Tok} (a : PySem.W.nsIn K mainGlobals x = some (some (.str y t))) : Glob K mg x (.str y) := ⟨.str y, _, PySem.W.mg_of X G a, ⟨t, rfl⟩, fun F => .str y⟩
theorem glob_int (X : K.In h) (G : h.Ns mainGlobals mg) {i : Int} {t : Tok} (a : PySem.W.nsIn K mainGlobals x = some (some (.int i t))) : Glob K mg x (.int i) := ⟨.int i, _, PySem.W.mg_of X G a, ⟨t, rfl⟩, fun F => .int i⟩
theorem glob_texts (X : K.In h) (G : h.Ns mainGlobals mg) {T : Addr} {od : Option Addr} {its : Array Value} {n : Nat} {sl : Array (Option Value)} {ws : List Str} (a : PySem.W.nsIn K mainGlobals x = some (some (.ref T))) (l : K.lookup T = some ⟨.type "tuple", od, .seq its n, sl⟩)
    (v : Vals (ws.map V.str) its.toList) (z : ws.length ≤ sizeLine) : Glob K mg x (.tup (ws.map D.str)) := by
  refine ⟨.ref T, _, PySem.W.mg_of X G a, rfl, fun F => .tup (.inr ⟨_, its, n, l, rfl, rfl, ?_, v⟩) (of_strs ws)⟩
  have := v.length
  rw [List.length_map] at this
  rw [← Array.length_toList, ← this]
  exact z
end
end DL

set_option maxHeartbeats 4000000
/-! DX1: own exceptions with a value: __init__, raise. -/
namespace DL
open PySem PySem.Spec L2
open PyProof.Rows hiding St

/-- the i-th def of a class -/
def methS (st : Stmt) (i : Nat) : Stmt := match st with
  | .ClassDef _ _ _ body _ _ _ _ _ _ _ => body.getD i (.Pass ⟨0, 0, 0, 0⟩)
  | _ => .Pass ⟨0, 0, 0, 0⟩
/-- TextError.__init__: the exception that is being made gets its dict -/
def spInit (K : PySem.W.Frag) : Sp := fun vs H Q _ => ∃ (a C : Addr) (u : V), vs = [.ref a, u] ∧ OexC K C ∧ PySem.W.findIn K (.ref C) "value" = some none ∧ H a = some (exo a C none) ∧
  ∀ dx, H dx = none → dx ≠ a → Q .non (upd (upd H dx (exd dx [("value", u)])) a (exo a C (some dx)))
def topT (i : Nat) : Stmt := PySem.Challenge.pw_eithermended_k90_whole_rows_edited_twice.main.body.getD i (.Pass ⟨0, 0, 0, 0⟩)
abbrev st_init : Stmt := methS (topT 6) 0
theorem sc_init : FnScope ["self", "value"] ["self", "value"] (defScope st_init) := ⟨rfl, rfl, rfl, by decide +kernel, rfl, by decide +kernel, by decide +kernel⟩
section
variable {P : Program} {w : World} {K : PySem.W.Frag} {mg : Str → Option Value} {base : Heap} {fI : Addr} {fd : FuncData}
theorem ok_init (F : Fun K "__init__" "TextError.__init__" st_init fI fd) (mv : mg "ValueError" = none) (vV : PySem.W.findCls K (.type "ValueError") (.type "type") "__init__" = some (.val (.builtin "ValueError.__init__"))) :
    FnOk P w K mg base L2.CX0 1 fI fd ["self", "value"] (spInit K) := by
  refine F.ok sc_init (fun vs H Q E h => ?_) (fun cdv A outer s H vs Q E hr h => ?_)
  · obtain ⟨a, C, u, rfl, _⟩ := h; rfl
  obtain ⟨a, C, u, rfl, T, nv, ea, q⟩ := h
  refine ⟨_, pss_cons (ps_expr (pe_veinit rfl mv vV (pa_cons (pv 0) (pa_cons (pv 1) pa_nil)))) (pss_one (ps_ost (pv 0) (pv 1))), ?_⟩
  refine ⟨.ref a, rfl, u, rfl, a, C, [u], rfl, by simp, T, ea, ?_⟩
  exact ⟨u, rfl, .ref a, rfl, a, C, rfl, T, nv, .inl ⟨ea, fun dx n ne => q dx n ne⟩⟩
end
end DL

set_option maxHeartbeats 4000000
/-! DX2: raise C(e). -/
namespace DL
open PySem PySem.Spec L2
open PyProof.Rows hiding St

/-- an own exception class with one value, its __init__ as TextError's -/
structure ExC (P : Program) (w : World) (K : PySem.W.Frag) (mg : Str → Option Value) (base : Heap) (x : Str) : Prop where
  ex : ∃ (C fI : Addr) (fd : FuncData), mg x = some (.ref C) ∧ PySem.W.nsIn K mainGlobals x = some (some (.ref C)) ∧ OexC K C ∧ PySem.W.findIn K (.ref C) "__init__" = some (some (.ref fI)) ∧
    PySem.W.typeIn K (.ref fI) = some (.type "function") ∧ PySem.W.findIn K (.ref C) "value" = some none ∧ FnOk P w K mg base L2.CX0 1 fI fd ["self", "value"] (spInit K) ∧ Binds K fd ["self", "value"] []
def dRaise (x : Str) (t : DTE) (E : DXK) : DTS := fun _ ρ M => t ρ M fun v M1 => E x v M1
section
variable {X : Cx} {Y : KJ X.K} {p cp pos : Pos} {e : Expr} {t : DTE} {E : DXK} {x : Str}
theorem ds_raise (T : ExC X.prog X.w X.K X.mg X.base x) (hr : Room 2 X.A) (g : XG X Y E) (hc : X.calm = true) (he : DE X Y e t) (hg : Gl X x := by rfl) (hd : (x == ("__debug__" : Str)) = false := by decide)
    (hs : starEach [e] X.env = (false, eval e X.env) :: starEach [] X.env := by rfl) (hpl : (backTo cp (starEach [] X.env)).any (·.1) = false := by rfl) :
    DS X Y (.Raise (some (.Call (.Name x p) [e] [] cp)) none pos) (dRaise x t E) := by
  obtain ⟨C, fI, fd, hm, hn, T, iC, tI, nv, F1, hb⟩ := T.ex
  obtain ⟨W, tk, h⟩ := g.ex
  refine PS.weak (ps_raise hc tk (pmk_oex (dvs := []) T iC tI F1 hr hb .nil pass0 hg hm (da_cons he da_nil hs) hd hs hpl)) ?_
  rintro D0 σ H ⟨F, M, ρ, D, rs, rl, q, k⟩
  refine ⟨F, M, ρ, fun ds M1 => match ds with | [v] => E x v M1 | _ => False, rs, rl, q, ?_⟩
  intro vs ds F1 M1 H1 s1 rp z
  obtain ⟨v, rfl⟩ : ∃ v, ds = [v] := by
    match ds, z with
    | [v], _ => exact ⟨v, rfl⟩
  obtain ⟨u, rfl, ru⟩ := rp1 rp
  refine ⟨by simp, fun a ha => ⟨a, C, u, rfl, T, nv, upd_same, fun dx n ne => ?_⟩⟩
  have hdx : H1 dx = none := by rw [upd_ne ne] at n; exact n
  refine ⟨rfl, dx, [("value", u)], upd_same, by rw [upd_ne ne, upd_same], hdx, ?_⟩
  have e1 : upd (del (upd (upd (upd H1 a (exo a C none)) dx (exd dx [("value", u)])) a (exo a C (some dx))) a) dx (.xd [("value", u)]) = upd H1 dx (.xd [("value", u)]) := by
    funext b
    by_cases hb : b = dx
    · rw [hb, upd_same, upd_same]
    · rw [upd_ne hb, upd_ne hb]
      by_cases hba : b = a
      · rw [hba, del_same, ha]
      · rw [del_ne hba, upd_ne hba, upd_ne hb, upd_ne hba]
  rw [e1]
  have s2 := s1.rel.newF hdx (.xd [("value", u)])
  exact h σ _ M1 _ x v _ _ s2.rel ⟨C, dx, u, hn, rfl, rfl, upd_same, ru.mono s2.same⟩ z
end
end DL

set_option maxHeartbeats 4000000
/-! DX3: a caught exception that stays known behind its suite. -/
namespace DL
open PySem PySem.Spec L2
open PyProof.Rows hiding St

/-- the heap where the caught exception at a is known -/
def clm (cls : Value) (d : Option Addr) (a : Addr) (H : Hp) : Hp :=
  match cls, d with
  | .ref C, some dx => upd H a (ExK C dx a)
  | _, _ => H
theorem clm_of {C dx a : Addr} {H : Hp} : clm (.ref C) (some dx) a H = upd H a (ExK C dx a) := rfl
theorem inv_claim {X : Cx} {pins : List (Addr × Obj)} {σ : L2.St} {H : Hp} {s : Shared} {a : Addr} {oe : Obj} {vs : Array Value} {cls : Value} {d : Option Addr} (I : Inv X pins σ H s) (e : s.heap.get? a = some oe)
    (z : Zc cls d oe) (hd : oe.data = .fields vs) (n0 : X.s_0.heap.get? a = none) (nL : a ≠ X.env.locals) (np : ∀ p ∈ X.pn ++ pins, p.1 ≠ a) (na : H a = none) : Inv X pins σ (clm cls d a H) s := by
  unfold clm
  split
  case h_2 => exact I
  case h_1 C dx =>
  have keepH : ∀ {b : Addr} {o : HO}, H b = some o → upd H a (ExK C dx a) b = some o := fun {b o} q => by
    have hb : b ≠ a := fun w => by rw [w, na] at q; cases q
    rw [upd_ne hb]; exact q
  have un : Un X.fs X.ex X.H_0 (upd H a (ExK C dx a)) X.s_0.heap s.heap := by
    refine ⟨I.base.keep, I.base.slot, fun b o q n hx => ?_, I.base.there, fun b xs q => keepH (I.base.tups b xs q), fun b o u q => keepH (I.base.frzs b o u q), fun b ps q => ?_⟩
    · have hb : b ≠ a := fun w => by rw [w, n0] at q; cases q
      rw [upd_ne hb]; exact I.base.free b o q n hx
    · obtain ⟨more, r⟩ := I.base.tbls b ps q
      exact ⟨more, keepH r⟩
  have hok : HOk X.prog X.w (upd H a (ExK C dx a)) s.heap := fun b o q => by
    by_cases hb : b = a
    · subst hb
      rw [upd_same] at q; cases q
      exact ⟨⟨oe, vs, e, z, hd⟩, ⟨oe, e⟩, fun h1 h2 ⟨o1, v1, q1, q2, q3⟩ k => ⟨o1, v1, k _ q1, q2, q3⟩⟩
    · rw [upd_ne hb] at q
      exact (I.hok b o q).stay (fun _ _ _ q => q) (fun _ q => keepH q) fun _ _ q => keepH q
  refine ⟨I.ok, I.os, I.bare, un, I.loc, I.cell, ?_, fun x c q => ?_, fun p hp => ?_, hok, I.len⟩
  · rw [upd_ne (Ne.symm nL)]; exact I.free
  · have hc : c ≠ a := fun w => by
      obtain ⟨v, o, ho, hv⟩ := I.cell x c q
      rw [w, e] at ho; cases ho
      rw [hd] at hv; cases hv
    rw [upd_ne hc]; exact I.freeC x c q
  · obtain ⟨p1, p2, p3, p4, p5⟩ := I.pin p hp
    exact ⟨p1, by rw [upd_ne (np p hp)]; exact p2, p3, p4, p5⟩

section
variable {X : Cx} {x n : Str} {c : Value} {i : Nat} {body suite : List Stmt} {b₀ : Stmt} {np pos pos' : Pos} {tb : WX → L2.TS} {ts : Addr → Value → Option Addr → L2.TS} {Wo : WX}
/-- what is wished of an exception where the clause keeps it -/
def wKeep (K : PySem.W.Frag) (c : Value) (i : Nat) (ts : Addr → Value → Option Addr → L2.TS) (Wo : WX) (D : L2.Ends) : WX := fun cls d σ H =>
  ∃ b, PySem.W.exmOne K cls c = some b ∧ (b = false → Wo cls d σ H) ∧
    (b = true → ∀ a, H a = none → ts a cls d { nx := fun τ G => D.nx (τ.set i none) (clm cls d a G), rt := fun v G => D.rt v (clm cls d a G), bk := fun τ G => D.bk (τ.set i none) (clm cls d a G), ct := fun τ G => D.ct (τ.set i none) (clm cls d a G) } (σ.set i (some (.ref a))) H)
theorem ps_keep (stk : X.stack = X.env :: X.outer) (noex : X.ex = []) (fr : X.env.frame = some X.env.locals) (nd : X.N.Nodup) (ix : X.N[i]? = some n) (kd : X.env.kindOf n = some .local) (nm : Names X x c) (tk : Takes X Wo)
    (pb : ∀ (W : WX) (pn : List (Addr × Obj)) (xe : Value → Shared → Prop), Takes (X.tr pn xe) W → PassesOwn (model X.prog X.w) X.A X.env xe → PSs (X.tr pn xe) body (tb W))
    (ps : ∀ (a : Addr) (oe : Obj) (cls : Value) (d : Option Addr) (pn : List (Addr × Obj)), Zc cls d oe → (∃ vs, oe.data = .fields vs) → PSs (X.suite a ((a, oe) :: pn)) (b₀ :: suite) (ts a cls d)) :
    PS X (.Try body [.ExceptHandler (some (.Name x np)) (some n) (b₀ :: suite) pos'] [] [] pos) (fun D σ H => tb (wKeep X.K c i ts Wo D) D σ H) := by
  constructor
  intro pins s σ H D I0 want
  have okX := I0.ok
  have frX : X.A.frames = some (X.env :: X.outer) := stk ▸ okX.frames
  apply wpAny_Try_except
  let catch_ : Value → Shared → Prop := fun e s₁ => wpAny (model X.prog X.w) X.A (noteFrame e X.env) (fun _ s₂ => wpAny (model X.prog X.w) X.A (setFlight e none)
    (fun _ s₃ => wpAny (model X.prog X.w) X.A (handleBy e X.env [.ExceptHandler (some (.Name x np)) (some n) (b₀ :: suite) pos']) (SP X pins D) X.xe s₃) X.xe s₂) X.xe s₁
  have tkB : Takes (X.tr (X.pn ++ pins) catch_) (wKeep X.K c i ts Wo D) := by
    rintro _ s' ⟨a, B, sI, pins', τ, G, cls, d, rfl, JT, nb, up, sky, na, os, ag, b, eb, wno, wyes⟩
    have J : Inv X pins τ G sI := JT.ofTry okX
    have skyX : Sky B (X.env :: X.outer) a (Zc cls d) X.env.locals s'.heap := stk ▸ sky
    show wpAny (model X.prog X.w) X.A (noteFrame (.ref a) X.env) _ _ _
    apply Sky.land Zc.steady frX fr skyX
    intro h3 fl3 up3
    have Jl := J.landed (s' := { s' with heap := h3 }) nb fl3.1 (up.trans up3) os ag
    obtain ⟨oe, vs, ae, az, ad⟩ := fl3.there
    have offStk : a ∉ frs (X.env :: X.outer) := fun hm => by
      obtain ⟨_, o1, e1, q1⟩ := fl3.2.2.1.mem hm
      exact q1 _ (by rw [ae] at e1; cases e1; exact ad)
    have offL : a ≠ X.env.locals := fun w => offStk (List.mem_filterMap.mpr ⟨X.env, List.mem_cons_self, w ▸ fr⟩)
    have offF : a ∉ X.fs := fun hm => let ⟨en, m1, m2⟩ := List.mem_filterMap.mp hm; offStk (List.mem_filterMap.mpr ⟨en, List.mem_cons_of_mem _ m1, m2⟩)
    -- the object is none of the def's entry, none that is pinned
    have newI : sI.heap.get? a = none := by
      cases q : sI.heap.get? a with
      | none => rfl
      | some o =>
        have := nb a o q (stk ▸ offStk)
        rw [fl3.2.1] at this; cases this
    have new0 : X.s_0.heap.get? a = none := by
      cases q : X.s_0.heap.get? a with
      | none => rfl
      | some o =>
        obtain ⟨o', q'⟩ := J.base.there a o q (by rw [noex]; simp)
        rw [newI] at q'; cases q'
    have offP : ∀ p ∈ X.pn ++ pins, p.1 ≠ a := fun p hp w => by
      have := (J.pin p hp).1
      rw [w, newI] at this; cases this
    have Ss := Jl.suite ae ad na offL offF
    apply wpAny_handleBy_cons _ (by intro q; cases q)
    apply codeAny_handlers_test
    have looks : PySem.W.Looks (model X.prog X.w) h3 (typeOf (.ref a)) cls := fun A Q E s k q => wpAny_typeOf_ref (k _ _ ae) (az.1.symm ▸ q)
    have names : ∀ {Q E : Value → Shared → Prop}, Q c { s' with heap := h3 } → wpAny (model X.prog X.w) (X.A.mark (some (.ref a))) (eval (.Name x np) X.env) Q E { s' with heap := h3 } := by
      intro Q E q
      rcases nm with ⟨g1, g2, g3⟩
      rcases g3 with g3 | ⟨g3, g4, g5⟩
      · exact ld_glob (X := X.suite a ((a, oe) :: (X.pn ++ pins))) Ss g1 g3 q g2
      · exact ld_blt (X := X.suite a ((a, oe) :: (X.pn ++ pins))) Ss g1 g3 g4 q g5 g2
    apply names
    apply (PySem.W.exm_one (M := model X.prog X.w) Jl.kIn looks eb).here
    cases b
    · show wpAny _ X.A (handleBy (.ref a) X.env []) _ _ _
      apply wpAny_handleBy_nil
      have fl := fl3
      obtain ⟨_, _, _, oe', vs', T, oT, ts', he, hz, hd, h1, hr⟩ := fl3
      unfold PySem.passOn
      apply wpAny_bind
      apply wpAny_field he hd h1
      rw [if_neg (by simp)]
      have on : wpAny (model X.prog X.w) X.A (setFlight (.ref a) X.env.frame) (fun _ s4 => wpAny (model X.prog X.w) X.A (throw (.ref a) : Sem Flow) (SP X pins D) X.xe s4) X.xe { s' with heap := h3 } := by
        rw [fr]
        apply HandSPX.setFlight_upZ fl
        intro h4 held up4
        exact wpAny_throw (tk _ _ ⟨a, B, sI, pins, τ, G, cls, d, rfl, J, nb, (up.trans up3).trans up4, .inr (.inr (stk.symm ▸ held)), na, os, ag, wno rfl⟩)
      first
        | exact wpAny_bind (wpAny_pure (wpAny_bind on))
        | exact wpAny_bind on
    · apply codeAny_handlers_suite_as
      apply HandSPX.lands_againZ fl3
      intro h4 fl4 up4
      have J4 := J.landed (s' := { s' with heap := h4 }) nb fl4.1 ((up.trans up3).trans up4) os ag
      obtain ⟨o4, v4, ae4, az4, ad4⟩ := fl4.there
      have S4 := J4.suite ae4 ad4 na offL offF
      apply store_ok (X := X.suite a ((a, o4) :: (X.pn ++ pins))) (v := .ref a) S4 nd ix (.inl kd) rfl _ (.inr kd)
      intro s5 S5
      refine wpAny_mono ((ps a o4 cls d (X.pn ++ pins) az4 ⟨_, ad4⟩).run [] s5 _ G _ S5 (wyes rfl a na)) ?_ (fun _ _ z => False.elim z)
      intro f s6 sp
      have gone : ∀ {τ' : L2.St} {G' : Hp} {Q : Shared → Prop}, Inv (X.suite a ((a, o4) :: (X.pn ++ pins))) [] τ' G' s6 → (∀ s7, Inv X pins (τ'.set i none) (clm cls d a G') s7 → Q s7) →
          wpAny (model X.prog X.w) X.A (do bindName X.env n .none; unbindBehindTheSuite X.env n pos') (fun _ s7 => Q s7) X.xe s6 := by
        intro τ' G' Q S6 k
        have pa := S6.pin (a, o4) (List.mem_append_left _ List.mem_cons_self)
        exact gone_ok (inv_claim (S6.unsuite okX) pa.1 az4 ad4 new0 offL offP pa.2.1) nd ix kd k
      cases f with
      | ret u => obtain ⟨v6, τ6, G6, S6, r6, q6⟩ := sp; exact gone S6 fun s7 J7 => ⟨_, _, _, J7, r6, q6⟩
      | next => obtain ⟨τ6, G6, S6, q6⟩ := sp; exact gone S6 fun s7 J7 => ⟨_, _, J7, q6⟩
      | brk => obtain ⟨τ6, G6, S6, q6⟩ := sp; exact gone S6 fun s7 J7 => ⟨_, _, J7, q6⟩
      | cont => obtain ⟨τ6, G6, S6, q6⟩ := sp; exact gone S6 fun s7 J7 => ⟨_, _, J7, q6⟩
  refine wpAny_mono ((pb _ (X.pn ++ pins) catch_ tkB PassesOwn.looking).run [] s σ H D (I0.toTry _) want) ?_ (fun e s1 he => he)
  intro f s1 sp
  cases f with
  | next => obtain ⟨τ, G, J, q⟩ := sp; exact wpAny_execs_nil ⟨τ, G, J.ofTry okX, q⟩
  | ret u => obtain ⟨v, τ, G, J, r, q⟩ := sp; exact ⟨v, τ, G, J.ofTry okX, r, q⟩
  | brk => obtain ⟨τ, G, J, q⟩ := sp; exact ⟨τ, G, J.ofTry okX, q⟩
  | cont => obtain ⟨τ, G, J, q⟩ := sp; exact ⟨τ, G, J.ofTry okX, q⟩
end
end DL

set_option maxHeartbeats 4000000
/-! DX4a: a lambda called, the wish of its exception at the slots of the call. -/
namespace DL
open PySem PySem.Spec L2 LamX
open PyProof.Rows hiding St
section
variable {X : Cx} {pins : List (Addr × Obj)} {σ : L2.St} {H : Hp} {s : Shared}
/-- LamX.pe_act, the slots of the caller told -/
theorem pe_actS {CXg : CXT} {Eg : XK} {Ng : List Str} {qg : Str} {sg : Scope} {g f c' : Addr} {cdg pm ctv : Value} {params : Arguments} {body : Expr} {scope : Scope} {k i : Nat} {a : Str} {pn : List (Addr × Obj)} {xe : Value → Shared → Prop} {W : WX} {E : XK} {tb : L2.TE} {p1 p2 : Pos} {σ₀ : L2.St}
    (I : Inv X pins σ H s) (L : LamS X.env.scope scope) (hf : s.heap.get? f = some (PySem.W.kla_obj "<lambda>" (X.env.qual ++ "<lambda>") params body scope (cloFrom X.env.cells scope.names []) pm c' ctv)) (hfn : H f = none) (hfr : f ∉ frs X.stack)
    (bind : bindArgs (PySem.W.kla_fn "<lambda>" (X.env.qual ++ "<lambda>") params body scope (cloFrom X.env.cells scope.names []) pm (.ref c') ctv) ⟨[], []⟩ = pure [])
    (tk : Takes ((cxOf CXg X.prog X.w X.K X.mg X.base Ng qg sg g cdg X.A X.stack s H Eg).tr pn xe) W) (wE : ∀ cls d G, E cls d G → W cls d σ₀ G) (room : Room (k + 1) (X.A.deeper (envOfC qg sg s.heap.objs.size g cdg)))
    (pb : ∀ (A : Around) (outer : List Env) (s : Shared) (H : Hp), A.guards = X.A.guards → Room k (A.deeper (lamEnv X scope s.heap.objs.size f c')) → PE (lamCx X A outer s H E scope f c') body tb)
    (hN : Ng[i]? = some a) (hv : Vis sg a) (hd : (a == ("__debug__" : Str)) = false := by decide) (hcd : (a == ("__classdict__" : Str)) = false := by decide) :
    PE ((cxOf CXg X.prog X.w X.K X.mg X.base Ng qg sg g cdg X.A X.stack s H Eg).tr pn xe) (.Call (.Name a p1) [] [] p2)
      (fun σZ HZ Q => σZ = σ₀ ∧ σZ[i]? = some (some (.ref f)) ∧ HZ c' = some (CodeO c' (X.env.qual ++ "<lambda>")) ∧ tb σ HZ Q) := by
  constructor
  rintro pinsZ sZ σZ HZ Q IZ ⟨e0, slot, code, want⟩
  subst e0
  apply wpAny_Call_Name_kw
  refine thn ((pe_var (pos := p1) (i := i) hN hv hd hcd).run pinsZ sZ σZ HZ (fun v G => v = .ref f ∧ G = HZ) IZ ⟨.ref f, slot, rfl, rfl⟩) ?_
  rintro u s1 ⟨w0, G0, I1, rel, ev, eG⟩
  subst ev
  rw [eG] at I1
  obtain rfl : u = Value.ref f := rel
  have lam := I1.base.keep f _ hf hfn hfr (by intro z; cases z)
  apply PySem.W.callWith_F0 ⟨_, _, _, _, lam⟩
  obtain ⟨⟨oc, vs, t, c1, c2, c3⟩, _, _⟩ := I1.hok c' _ code
  have run : codeAny (model X.prog X.w) (X.A.deeper (envOfC qg sg s.heap.objs.size g cdg)) (.call (.ref f) ⟨[], []⟩) (CR (L2.CX X.prog X.w) (envOfC qg sg s.heap.objs.size g cdg :: X.stack) X.prog X.w HZ s1 Q E) s1 := by
    apply PySem.W.kla_callFunE room.depth lam rfl L.co L.gen rfl ⟨c', oc, vs, t, rfl, c1, c2, c3⟩
    rw [bind]
    apply wpAny_pure
    refine wpAny_newFunctionEnv (fun y hy => (L.own y hy).2) (fun y hy => absurd hy (by simp)) (fun h₁ ns sb => ?_) L.kind
    refine ⟨I1.nolimit.fresh _ sb, ?_⟩
    show codeAny _ _ (.expr body (lamEnv X scope s1.heap.objs.size f c')) _ _
    have J : Inv (lamCx X (X.A.deeper (envOfC qg sg s.heap.objs.size g cdg)) (envOfC qg sg s.heap.objs.size g cdg :: X.stack) s1 HZ E scope f c') [] σ HZ { s1 with heap := h₁, toks := s1.toks + ([] : List (Str × Value)).length } :=
      lam_start2 I L I1.env0 room.hd I1.base ns fun b o e => sb.extBut b o (Nat.ne_of_lt (Heap.lt_size e)) (Heap.get?_push_of_some _ e)
    refine PySem.W.kla_codeExpr (wpAny_mono ((pb (X.A.deeper (envOfC qg sg s.heap.objs.size g cdg)) _ s1 HZ rfl (room.deeper _)).run [] _ _ HZ Q J want) ?_ fun e s' q => q)
    rintro v s' ⟨w', G, J', rv, q⟩
    exact ⟨w', G, J'.os, J'.bare, J'.base, J'.hok, rv, q⟩
  apply wpAny_call
  refine codeAny_mono run ?_
  intro r s' res
  cases r with
  | error e => exact tk e s' (XE.of_call I1 (fun cls d G q => wE cls d G q) res)
  | ok fl => cases fl with
    | ret u => exact I1.after res
    | next => exact res.elim
    | brk => exact res.elim
    | cont => exact res.elim
end
end DL

set_option maxHeartbeats 4000000
/-! DX4b: a def that calls what it got, at told slots; its call with a lambda. -/
namespace DL
open PySem PySem.Spec L2 LamX
open PyProof.Rows hiding St

/-- the context of the def x at g, entered from X at s -/
abbrev Zg (X : Cx) (Ng : List Str) (x : Str) (sg : Scope) (g : Addr) (cdg : Value) (s : Shared) (H : Hp) : Cx := cxOf C8.CX0 X.prog X.w X.K X.mg X.base Ng x sg g cdg X.A X.stack s H C8.E0
abbrev TTv := (XK → Hp → VK → Prop) → Hp → VK → Prop
/-- as LamX.GivesTo, the slots told at each call of what it got -/
def GivesS (X : Cx) (Ng : List Str) (x : Str) (sg : Scope) (g : Addr) (cdg : Value) (bg : List Stmt) (a q : Str) (TT : TTv) : Prop :=
  ∀ (f c' : Addr) (s : Shared) (H : Hp) (Q : VK) (tl : XK → Hp → VK → Prop),
    (∀ (σ₀ : L2.St) (W : WX) (pn : List (Addr × Obj)) (xe : Value → Shared → Prop) (E : XK) (p1 p2 : Pos), Takes ((Zg X Ng x sg g cdg s H).tr pn xe) W → (∀ cls d G, E cls d G → W cls d σ₀ G) →
      PE ((Zg X Ng x sg g cdg s H).tr pn xe) (.Call (.Name a p1) [] [] p2) fun σ G R => σ = σ₀ ∧ σ[0]? = some (some (.ref f)) ∧ G c' = some (CodeO c' q) ∧ tl E G R) →
    H c' = some (CodeO c' q) → TT tl H Q → ∃ t, PSs (Zg X Ng x sg g cdg s H).nox bg t ∧ t { nx := fun _ G => Q .non G, rt := Q } (L2.start Ng [.ref f]) H
section
variable {X : Cx}
/-- x(lambda: body), x such a def -/
theorem pe_lamS {T : List (Addr × Str)} {TT : TTv} {x a : Str} {g c P : Addr} {k : Nat} {pg : Arguments} {bg : List Stmt} {sg : Scope} {dV kV doc pm cdv ct oc : Value} {an od : Option Addr} {osl : Array (Option Value)} {Ng : List Str}
    {params : Arguments} {body : Expr} {scope : Scope} {t : XK → L2.TE} {p lpos pos : Pos}
    (gl : Gl X x) (m : X.mg x = some (.ref g)) (kp : PySem.W.keepIn X.K (.ref g) = true) (lk : X.K.lookup g = some ⟨oc, od, .func (PySem.W.fnOf x x pg bg sg dV kV doc pm an cdv ct), osl⟩) (hcd : PySem.W.codeIn X.K cdv x = true)
    (bi : L2.Binds X.K (PySem.W.fnOf x x pg bg sg dV kV doc pm an cdv ct) [a] []) (S : FnScope Ng [a] sg) (N0 : Ng[0]? = some a) (vis : Vis sg a) (give : GivesS X Ng x sg g cdv bg a (X.env.qual ++ "<lambda>") TT)
    (tb : TabB X.base X.mg c P) (cod : X.env.code = .ref c) (inT : (P, X.env.qual ++ "<lambda>") ∈ T) (onlyT : ∀ p ∈ T, p.1 = P → p.2 = X.env.qual ++ "<lambda>") (room : Room (k + 2) X.A) (L : LamS X.env.scope scope) (nodef : defaultsOf params X.env = ([], []))
    (noarg : ∀ (q : Str) (cl : List (Str × Addr)) (pm cv ctv : Value), bindArgs (PySem.W.kla_fn "<lambda>" q params body scope cl pm cv ctv) ⟨[], []⟩ = pure [])
    (inner : ∀ (A : Around) (outer : List Env) (s : Shared) (H : Hp) (E : XK) (f c' : Addr), A.guards = X.A.guards → Room k (A.deeper (lamEnv X scope s.heap.objs.size f c')) → PE (lamCx X A outer s H E scope f c') body (t E))
    (n1 : (x == ("__debug__" : Str)) = false := by decide) (n2 : (a == ("__debug__" : Str)) = false := by decide) (n3 : (a == ("__classdict__" : Str)) = false := by decide) :
    PE X (.Call (.Name x p) [.Lambda params body scope lpos] [] pos) (tLam T TT t) := by
  constructor
  rintro pins s σ H Q I ⟨tabs, nxt⟩
  apply wpAny_Call_Name_kw
  refine ld_glob I gl m ?_ n1
  refine PySem.W.callWith_K (h₀ := X.base) I.ok.mod.kin kp ?_ (by rfl) (by rfl)
  show wpAny _ _ (spliced ((false, eval (.Lambda params body scope lpos) X.env) :: backTo pos (starEach [] X.env))) _ _ s
  apply Calls.spliced_cons
  apply lam_make2 I tb cod inT onlyT tabs nodef (L.has I.ok)
  intro f c' pm' ctv H1 s' I1 eN T1 hf hfn hfr hco
  refine Calls.spliced_nil ⟨I1.kIn, ?_⟩
  have run : codeAny (model X.prog X.w) X.A (.call (.ref g) ⟨[.ref f], []⟩) (CR C8.CX0 X.stack X.prog X.w H1 s' Q C8.E0) s' := by
    refine run_ofS (N := Ng) (ps := [a]) (us := [.ref f]) (vs := [.ref f]) lk hcd S room I1.env0 (bi s' [.ref f] I1.kIn rfl) (.cons rfl .nil) rfl ?_
    intro room'
    obtain ⟨u, hu, hq⟩ := give f c' s' H1 Q (fun E G R => t E σ G R) (fun σ₀ W pn xe E p1 p2 tk wE =>
      pe_actS (i := 0) (CXg := C8.CX0) (Eg := C8.E0) I1 L hf hfn hfr (noarg _ _ _ _ _) tk wE room' (fun A outer s H gA r2 => inner A outer s H E f c' gA r2) N0 vis n2 n3) hco (nxt H1 eN T1)
    exact ⟨u, hu.nox, hq⟩
  apply wpAny_call
  refine codeAny_mono run ?_
  intro r s2 q
  match r, q with
  | .error _, q => exact (show False from q).elim
  | .ok (.ret u), q => exact I1.after q
  | .ok .next, q => exact q.elim
  | .ok .brk, q => exact q.elim
  | .ok .cont, q => exact q.elim
end
end DL

set_option maxHeartbeats 4000000
/-! DX4c: a def that calls what it got and tells what was heard. -/
namespace DL
open PySem PySem.Spec L2 LamX
open PyProof.Rows hiding St

/-- caught, back = None, None; try: back = a() except C as error: caught = error; return caught, back -/
def THeard (K : PySem.W.Frag) (CS : Addr) : TTv := fun tl H Q =>
  ∀ p0, H p0 = none → tl (fun cls d G => PySem.W.exmOne K cls (.ref CS) = some true ∧ ∀ a, G a = none → ∀ p, clm cls d a G p = none → Q (.ref p) (upd (clm cls d a G) p (.tup [.ref a, .non]))) (upd H p0 (.tup [.non, .non]))
    (fun v G => ∀ p, G p = none → Q (.ref p) (upd G p (.tup [.non, v])))
section
variable {X : Cx}
theorem PE.up {e : Expr} {t : L2.TE} (h : PE X e t) : PE X e fun σ H Q => ∃ R, t σ H R ∧ ∀ v G, R v G → Q v G := by
  constructor
  rintro pins s σ H Q I ⟨R, z, k⟩
  refine wpAny_mono (h.run pins s σ H R I z) ?_ fun _ _ x => x
  rintro u s1 ⟨v, G, J, r, q⟩
  exact ⟨v, G, J, r, k v G q⟩
theorem heard_gives {x a cg bk er e q : Str} {sg : Scope} {g CS : Addr} {cdg : Value} {j1 j2 : Nat} {k1 k2 k3 : Nat} {p1 p2 p3 p4 p5 p6 p7 p8 p9 q1 q2 q3 q4 q5 q6 q7 q8 q9 r1 r2 r3 : Pos}
    (hge : sg.names.lookup e = some .globalImplicit) (hme : X.mg e = some (.ref CS)) (hde : (e == ("__debug__" : Str)) = false) (hc1 : sg.names.lookup cg = some .local) (hc2 : sg.names.lookup bk = some .local) (hc3 : sg.names.lookup er = some .local)
    (nd : [a, cg, bk, er].Nodup)
    (hw : ∀ env : Env, env.scope = sg → swappedStores [.Tuple [.Name cg p1, .Name bk p2] k1 p3] (.Tuple [.Constant .none j1 p4, .Constant .none j2 p5] k2 p6) env = pure none)
    (hs : ∀ env : Env, env.scope = sg → swapsWithSole [.Tuple [.Name cg p1, .Name bk p2] k1 p3] (.Tuple [.Constant .none j1 p4, .Constant .none j2 p5] k2 p6) p7.line env = pure false)
    (hsw : ∀ env : Env, env.scope = sg → swapsWith (.Call (.Name a p9) [] [] q1) (some (.Name bk p8)) q2.line env = pure false) (hsw2 : ∀ env : Env, env.scope = sg → swapsWith (.Name er q5) (some (.Name cg q4)) q6.line env = pure false)
    (d1 : (cg == ("__debug__" : Str)) = false) (d2 : (bk == ("__debug__" : Str)) = false) (d3 : (er == ("__debug__" : Str)) = false) (e1 : (cg == ("__classdict__" : Str)) = false) (e2 : (bk == ("__classdict__" : Str)) = false) (e3 : (er == ("__classdict__" : Str)) = false) : GivesS X [a, cg, bk, er] x sg g cdg
      [.Assign [.Tuple [.Name cg p1, .Name bk p2] k1 p3] (.Tuple [.Constant .none j1 p4, .Constant .none j2 p5] k2 p6) p7,
       .Try [.Assign [.Name bk p8] (.Call (.Name a p9) [] [] q1) q2] [.ExceptHandler (some (.Name e q3)) (some er) [.Assign [.Name cg q4] (.Name er q5) q6] q7] [] [] q8,
       .Return (some (.Tuple [.Name cg q9, .Name bk r1] k3 r2)) r3] a q (THeard X.K CS) := by
  intro f c' s H Q tl act hc h
  let Z := (Zg X [a, cg, bk, er] x sg g cdg s H).nox
  have es : Z.env.scope = sg := rfl
  have hgl : Gl Z e := hge
  refine ⟨_, pss_cons (ps_asg (X := Z) (pe_tup (pa_cons pe_non (pa_cons pe_non pa_nil))) (pg_tup rfl (pgs_cons (pg_name (i := 1) nd rfl (.inl hc1) (.inr hc1)) (pgs_cons (pg_name (i := 2) nd rfl (.inl hc2) (.inr hc2)) pgs_nil))) (hs _ es) (hw _ es))
    (pss_cons (ps_keep (X := Z) (i := 3) (c := .ref CS) (Wo := fun _ _ _ _ => False) (ts := fun _ _ _ => tAsg (tVar 3) (gName 1))
      (tb := fun W D σ H => ∃ Ech : XK, (∀ cls d G, Ech cls d G → W cls d σ G) ∧ σ[0]? = some (some (.ref f)) ∧ H c' = some (CodeO c' q) ∧ ∃ R, tl Ech H R ∧ ∀ v G, R v G → D.nx (σ.set 2 (some v)) G)
      rfl rfl rfl nd rfl hc3 ⟨hgl, hde, .inl hme⟩ L2.takes0 (fun W pn xe tk _ => ?_) (fun a oe cls d pn _ _ => pss_one (ps_set nd rfl (.inl hc1) (pe_var rfl (.inl hc3) d3 e3) (hsw2 _ es) (.inr hc1))))
    (pss_one (ps_ret (pe_tup (pa_cons (pe_var (i := 1) rfl (.inl hc1) d1 e1) (pa_cons (pe_var (i := 2) rfl (.inl hc2) d2 e2) pa_nil)))))), ?_⟩
  · constructor
    rintro pins s' σ G D I ⟨Ech, hW, h1, h2, R, h3, h4⟩
    have one := act σ W pn xe Ech p9 q1 tk hW
    have two := pss_one (ps_set (i := 2) (pos := q2) (pos' := p8) nd rfl (.inl hc2) (PE.up one) (hsw _ es) (.inr hc2))
    exact two.run pins s' σ G D I ⟨R, ⟨rfl, h1, h2, h3⟩, h4⟩
  · refine ⟨by show 2 ≤ sizeLine; rw [sizeLine_eq]; omega, fun p0 hp0 => ?_⟩
    have hc0 : upd H p0 (.tup [.non, .non]) c' = some (CodeO c' q) := by rw [upd_ne (ne_of_none hc hp0)]; exact hc
    refine ⟨p0, [.non, .non], rfl, .inl (.inl upd_same), rfl, ?_⟩
    refine ⟨.non, [.non], rfl, .non, [], rfl, rfl, ?_⟩
    refine ⟨fun cls d G => PySem.W.exmOne X.K cls (.ref CS) = some true ∧ ∀ a, G a = none → ∀ p, clm cls d a G p = none → Q (.ref p) (upd (clm cls d a G) p (.tup [.ref a, .non])), ?_, rfl, hc0, ?_⟩
    · rintro cls d G ⟨b1, b2⟩
      refine ⟨true, b1, fun z => (Bool.noConfusion z), fun _ b hb => ?_⟩
      refine ⟨.ref b, rfl, ?_⟩
      refine ⟨.ref b, rfl, .non, rfl, ?_⟩
      refine ⟨by show 2 ≤ sizeLine; rw [sizeLine_eq]; omega, fun p hp => b2 b hb p hp⟩
    · refine ⟨_, h p0 hp0, fun v G hv => ?_⟩
      refine ⟨.non, rfl, ?_⟩
      refine ⟨v, rfl, ?_⟩
      refine ⟨by show 2 ≤ sizeLine; rw [sizeLine_eq]; omega, fun p hp => hv p hp⟩
end
end DL

set_option maxHeartbeats 4000000
/-! DX4d: heard(lambda: e) over data. -/
namespace DL
open PySem PySem.Spec L2 LamX
open PyProof.Rows hiding St

/-- a state behind a given one -/
def fromY {K : PySem.W.Frag} (Y : KJ K) (F : Hp) (M : Mp) (H : Hp) : KJ K where
  T := Y.T
  J := fun F' M' H' => StpR K Y.T F M H F' M' H' ∧ Y.J F' M' H'
  cl := fun ⟨a, j⟩ s => ⟨a.trans s, Y.cl j s⟩
/-- the tables may grow -/
theorem RelR.ext {K : PySem.W.Frag} {T : TT8} {F : Hp} {M : Mp} {H H1 : Hp} (R : RelR K F M H) (e : ExtN H H1) (t : Tabs T H → Tabs T H1) : StpR K T F M H F M H1 := by
  refine ⟨Same.refl F, ⟨fun a o q => e a o (R.sub a o q) fun ps z => R.nt a ps (by rw [q, z]), fun a m q => ?_, R.nt⟩, fun a o q f m n => ⟨e a o q n, .inl f, m⟩, t⟩
  obtain ⟨f, o, e1, r⟩ := R.mt a m q
  refine ⟨f, o, e a o e1 ?_, r⟩
  rintro ps rfl
  cases m <;> exact r.elim
theorem exK_tbl {C dx a : Addr} (ps : Array Value) : ExK C dx a ≠ .tbl ps := fun z => by
  unfold ExK at z
  cases z
def dHeard (ok : Str → Prop) (td : DXK → DTE) : DTE := fun ρ M Q => td (fun x v M1 => ok x ∧ Q (.tup [.exc x v, .non]) M1) ρ M fun v M1 => Q (.tup [.non, v]) M1
section
variable {X : Cx} {Y : KJ X.K}
theorem de_heard {x a : Str} {st : Stmt} {Ng : List Str} {CS c P : Addr} {k : Nat} {params : Arguments} {body : Expr} {scope : Scope} {td : DXK → DTE} {ok : Str → Prop} {p lpos pos : Pos}
    (D : Has X.K X.mg x x st [a] []) (S : FnScope Ng [a] (defScope st)) (give : ∀ (g : Addr) (cdv : Value) (q : Str), GivesS X Ng x (defScope st) g cdv (defBody st) a q (THeard X.K CS))
    (tb : TabB X.base X.mg c P) (cod : X.env.code = .ref c) (inT : (P, X.env.qual ++ "<lambda>") ∈ Y.T) (onlyT : ∀ p ∈ Y.T, p.1 = P → p.2 = X.env.qual ++ "<lambda>")
    (sub : ∀ n C, ok n → PySem.W.nsIn X.K mainGlobals n = some (some (.ref C)) → PySem.W.exmOne X.K (.ref C) (.ref CS) = some true) (hr : Room (k + 2) X.A) (gu : X.A.guards = some []) (xt : XT Y) (L : LamS X.env.scope scope)
    (inner : ∀ (A : Around) (outer : List Env) (s : Shared) (H : Hp) (E : XK) (f c' : Addr) (Y' : KJ X.K) (E1 : DXK), Y'.T = Y.T → Room k (A.deeper (lamEnv X scope s.heap.objs.size f c')) → (A.deeper (lamEnv X scope s.heap.objs.size f c')).guards = some [] →
      XG (lamCx X A outer s H E scope f c') Y' E1 → DE (lamCx X A outer s H E scope f c') Y' body (td E1))
    (nodef : defaultsOf params X.env = ([], []) := by rfl) (noarg : ∀ (q : Str) (cl : List (Str × Addr)) (pm cv ctv : Value), bindArgs (PySem.W.kla_fn "<lambda>" q params body scope cl pm cv ctv) ⟨[], []⟩ = pure [] := by intros; rfl)
    (gl : Gl X x := by rfl) (N0 : Ng[0]? = some a := by rfl) (vis : Vis (defScope st) a := by first | exact Or.inl rfl | exact Or.inr (Or.inl rfl))
    (n1 : (x == ("__debug__" : Str)) = false := by decide) (n2 : (a == ("__debug__" : Str)) = false := by decide) (n3 : (a == ("__classdict__" : Str)) = false := by decide) :
    DE X Y (.Call (.Name x p) [.Lambda params body scope lpos] [] pos) (dHeard ok td) := by
  obtain ⟨g, oc, od, dV, kV, doc, pm, an, cdv, ct, osl, us, dvs, lk, hcd, kp, m, bi, vd, rd⟩ := D.ex
  have u0 : us = [] ∧ dvs = [] := by
    have := rd (fun _ => none)
    cases this
    cases vd
    exact ⟨rfl, rfl⟩
  obtain ⟨rfl, rfl⟩ := u0
  refine PE.weak (pe_lamS (T := Y.T) (TT := THeard X.K CS) (k := k) (t := fun E0 σ G R => ∃ (Y' : KJ X.K) (E1 : DXK), Y'.T = Y.T ∧ (∀ F M H, Y'.J F M H → Tabs Y'.T H) ∧ (∀ F M H x v cls d, Rel Y' F M H → ExR X.K F x v cls d → E1 x v M → E0 cls d H) ∧ canE Y' (td E1) σ G R)
    gl m kp lk hcd bi S N0 vis (give g cdv _) tb cod inT onlyT hr L nodef noarg ?_ n1 n2 n3) ?_
  · intro A outer s H E f c' gA r
    constructor
    rintro pins s1 σ H1 Q I ⟨Y', E1, eT, tabs, wish, can⟩
    exact (inner A outer s H E f c' Y' E1 eT r (gA.trans gu) ⟨tabs, _, takes_of rfl rfl rfl rfl, fun σ F M H x v cls d R e z => wish F M H x v cls d R e z⟩).run pins s1 σ H1 Q I can
  · rintro σ H Q0 ⟨F, M, ρ, Q, rs, r, q, kk⟩
    refine ⟨xt.tabs _ _ _ r.j, fun H1 eN T1 => ?_⟩
    have st := r.r.ext eN (fun _ => T1)
    intro p0 hp0
    have sp := RelR.newF (T := Y.T) st.rel hp0 (.tup [.non, .non]) (fun ps w => by cases w)
    have st := st.trans sp
    have r1 : Rel (fromY Y (upd F p0 (.tup [.non, .non])) M (upd H1 p0 (.tup [.non, .non]))) (upd F p0 (.tup [.non, .non])) M (upd H1 p0 (.tup [.non, .non])) := ⟨st.rel, StpR.refl st.rel, Y.cl r.j st⟩
    refine ⟨fromY Y (upd F p0 (.tup [.non, .non])) M (upd H1 p0 (.tup [.non, .non])), fun x v M1 => ok x ∧ Q (.tup [.exc x v, .non]) M1, rfl, fun F M H j => xt.tabs _ _ _ j.2, ?_, _, M, ρ, _, rs.mono sp.same, r1, q, ?_⟩
    · rintro F2 M2 H2 n v cls d R2 ⟨C, dx, u, en, rfl, rfl, ed, ru⟩ ⟨okn, z⟩
      refine ⟨sub n C okn en, fun a ha p hp => ?_⟩
      rw [clm_of] at hp ⊢
      have s1 := RelR.newF (T := Y.T) R2.r ha (ExK C dx a) exK_tbl
      have s2 := RelR.newF (T := Y.T) s1.rel hp (.tup [.ref a, .non]) (fun ps w => by cases w)
      have ne : a ≠ p := fun w => by rw [w, upd_same] at hp; cases hp
      have nd : dx ≠ a := fun w => by rw [w, R2.r.fnone ha] at ed; cases ed
      refine kk (.ref p) (.tup [.exc n v, .non]) _ _ _ (Stp.of r ((st.trans R2.j.1).trans (s1.trans s2))) (.tup (.inl (.inl upd_same)) (.cons (.exc (dx := dx) en ?_ ?_ (ru.mono (s1.same.trans s2.same))) (.cons .non .nil))) z
      · exact s2.same _ _ upd_same
      · exact s2.same _ _ (s1.same _ _ ed)
    · intro v d F2 M2 H2 s2 rp q2 p hp
      have s3 := RelR.newF (T := Y.T) s2.rel.r hp (.tup [.non, v]) (fun ps w => by cases w)
      exact kk (.ref p) (.tup [.non, d]) _ _ _ (Stp.of r ((st.trans s2.s).trans s3)) (.tup (.inl (.inl upd_same)) (.cons .non (.cons (rp.mono s3.same) .nil))) q2
end
end DL

set_option maxHeartbeats 4000000
/-! DX5: a known exception: its value, its class. -/
namespace DL
open PySem PySem.Spec L2
open PyProof.Rows hiding St

/-- the exception classes that may be heard -/
structure Known (K : PySem.W.Frag) (kn : Str → Prop) : Prop where
  of : ∀ x C, kn x → PySem.W.nsIn K mainGlobals x = some (some (.ref C)) → XfC K C ∧ ExcC K C ∧ PySem.W.findIn K (.ref C) "value" = some none
/-- each class under x is one of the class at CY just if b x -/
def SubsOf (K : PySem.W.Frag) (kn : Str → Prop) (CY : Addr) (b : Str → Bool) : Prop := ∀ x C, kn x → PySem.W.nsIn K mainGlobals x = some (some (.ref C)) → PySem.W.kitOne K (.ref C) (.ref CY) = some (b x)
section
variable {X : Cx} {Y : KJ X.K} {p p' pos : Pos} {e : Expr} {t : DTE} {kn : Str → Prop}
theorem inst_exc {pins : List (Addr × Obj)} {σ : L2.St} {H : Hp} {s : Shared} {a C dx : Addr} {fs : List (Str × V)} (I : Inv X pins σ H s) (h1 : H a = some (ExK C dx a)) (h2 : H dx = some (.xd fs)) :
    ∃ (oe od : Obj) (mA : Str → Option Value), PySem.W.InstAt s.heap a oe C (some od) ∧ (∀ n, PySem.W.lookIn n od = some (mA n)) ∧ ∀ f, RelO (fs.lookup f) (mA f) := by
  obtain ⟨⟨oe, vs, he, hz, hd⟩, _, _⟩ := I.hok a _ h1
  have hx : ObjOk X.prog X.w H s.heap dx (.xd fs) := I.hok dx _ h2
  obtain ⟨mA, hns, hr⟩ := hx
  obtain ⟨od, ho, hl⟩ := lookIn_ns hns
  exact ⟨oe, od, mA, ⟨he, hz.1, by unfold PySem.W.notCls; rw [hd] <;> rfl, by rw [hz.2]; exact ho⟩, hl, hr⟩
/-- e.value -/
def dExcV (kn : Str → Prop) (t : DTE) : DTE := fun ρ M Q => t ρ M fun d M1 => ∃ x v, d = .exc x v ∧ kn x ∧ Q v M1
theorem de_excV (T : Known X.K kn) (he : DE X Y e t) (hb : attributeBase e "value" X.env (eval e X.env) = eval e X.env := by rfl) : DE X Y (.Attribute e "value" pos) (dExcV kn t) := by
  constructor
  rintro pins s σ H Q0 I ⟨F, M, ρ, Q, rs, rl, q, k⟩
  let R : VK := fun v H1 => ∃ (a C dx : Addr) (w : V), v = .ref a ∧ XfC X.K C ∧ PySem.W.findIn X.K (.ref C) "value" = some none ∧ H1 a = some (ExK C dx a) ∧ H1 dx = some (.xd [("value", w)]) ∧ Q0 w H1
  refine attr_of hb (thn (he.run pins s σ H R I ⟨F, M, ρ, _, rs, rl, q, fun v d F1 M1 H1 s1 rp q1 => ?_⟩) fun u s1 hh => ?_)
  · obtain ⟨x, w, rfl, kx, q2⟩ := q1
    cases rp with
    | exc en e1 e2 rw_ =>
      obtain ⟨k1, k2, k3⟩ := T.of _ _ kx en
      exact ⟨_, _, _, _, rfl, k1, k3, s1.rel.sub _ _ e1, s1.rel.sub _ _ e2, k _ _ F1 M1 H1 s1 rw_ q2⟩
  · obtain ⟨v, H1, I1, rv, a, C, dx, w, rfl, T1, no, e1, e2, q⟩ := hh
    obtain rfl : u = Value.ref a := rv
    obtain ⟨oe, od, mA, J, hl, hr⟩ := inst_exc I1 e1 e2
    obtain ⟨z, hz, rz⟩ := RelO.some_of (v := w) (o := mA "value") (hr "value")
    exact HandSPX.exc_get I1.kIn J T1.ga T1.gg T1.exC (PySem.W.findObj_own T1.hdC no rfl (by rw [hl, hz])) (handed_of rz) ⟨w, H1, I1.tok _, rz, q⟩
/-- isinstance(e, C) of a known exception -/
def rIsH (K : PySem.W.Frag) : List V → Hp → VK → Prop := fun xs H Q => ∃ (a C dx CY : Addr) (fs : List (Str × V)) (b : Bool), xs = [.ref a, .ref CY] ∧ H a = some (ExK C dx a) ∧ H dx = some (.xd fs) ∧ ExcC K C ∧ PySem.W.kitOne K (.ref C) (.ref CY) = some b ∧ Q (.bl b) H
theorem call_isH : CallR X (.builtin "isinstance") (rIsH X.K) := by
  rintro pins s σ H xs us Q I r ⟨a, C, dx, CY, fs, b, rfl, e1, e2, T, ek, q⟩
  cases r with
  | cons rx rr =>
    cases rr with
    | cons rt rr =>
      cases rr
      cases rx
      cases rt
      obtain ⟨oe, od, mA, J, hl, hr⟩ := inst_exc I e1 e2
      have cl : (PySem.W.clsIn X.K C).isSome = true := by
        obtain ⟨cd, hc, _⟩ := PySem.W.any_some T.hd
        unfold PySem.W.clsIn at hc ⊢
        rw [hc]; rfl
      exact PySem.W.kia_one (PySem.W.kitx_exc cl T.hg T.hk T.hs T.ha T.hn T.ht T.hm) I.kIn J ek (fun z => nomatch z) fun tk => ⟨.bl b, H, I.kept (t' := tk) fun _ _ z => z, rfl, q⟩
def dIsE (kn : Str → Prop) (b : Str → Bool) (t : DTE) : DTE := fun ρ M Q => t ρ M fun d M1 => ∃ x v, d = .exc x v ∧ kn x ∧ Q (.bl (b x)) M1
theorem de_isE {y : Str} {CY : Addr} {b : Str → Bool} (T : Known X.K kn) (sb : SubsOf X.K kn CY b) (m1 : X.mg "isinstance" = none) (m2 : X.mg y = some (.ref CY)) (he : DE X Y e t) (hg : Gl X "isinstance" := by rfl) (hg2 : Gl X y := by rfl) (hd : (y == ("__debug__" : Str)) = false := by decide)
    (s1 : starEach [e, .Name y p'] X.env = (false, eval e X.env) :: starEach [.Name y p'] X.env := by rfl) (s2 : starEach [.Name y p'] X.env = (false, eval (.Name y p') X.env) :: starEach [] X.env := by rfl)
    (hpl : (backTo pos (starEach [.Name y p'] X.env)).any (·.1) = false := by rfl) : DE X Y (.Call (.Name "isinstance" p) [e, .Name y p'] [] pos) (dIsE kn b t) := by
  have h2 : PE X (.Name y p') (tC (.ref CY)) := pe_glob hg2 m2 rfl hd
  refine PE.weak (pe_callB call_isH hg m1 (by decide +kernel) (pa_cons he (pa_cons h2 pa_nil s2) s1) (by decide) (by decide) s1 hpl) ?_
  rintro σ H Q0 ⟨F, M, ρ, Q, rs, rl, q, k⟩
  refine ⟨F, M, ρ, _, rs, rl, q, fun v d F1 M1 H1 s1 rp ⟨x, w, ed, kx, q1⟩ => ?_⟩
  subst ed
  cases rp with
  | exc en e1 e2 rw_ =>
    obtain ⟨k1, k2, k3⟩ := T.of _ _ kx en
    exact ⟨_, _, _, CY, _, b x, rfl, s1.rel.sub _ _ e1, s1.rel.sub _ _ e2, k2, sb x _ kx en, k _ _ F1 M1 H1 s1 (.bl _) q1⟩
end
end DL

set_option maxHeartbeats 4000000
/-! DX6: the end of a law whose defs make lambdas. -/
namespace DL
open PySem PySem.Spec L2 LamX
open PyProof.Rows hiding St

/-- an empty table of code objects -/
abbrev tab0 : Obj := { cls := .none, data := .fields #[] }
abbrev listO (vs : List Value) : Obj := { cls := .type "list", data := .seq vs.toArray }
/-- the law's call over the heap behind the top, with tables at ts -/
theorem glaw_callT {CXa : CXT} {P : Program} {w : World} {K : PySem.W.Frag} {mg mb : Str → Option Value} {k : Nat} {fa a : Addr} {fd : FuncData} {x : Str} {sp : Sp} {s0 : Shared} {vs : List Value} {ns : List Int} {cs : List (Addr × Addr)}
    (KX : K.In s0.heap) (hns : s0.heap.Ns mainGlobals mg) (hb : s0.heap.Ns builtinsNs mb) (hbb : ∀ x : Str, x ≠ "__name__" → mb x = bootBuiltins x) (hlim : s0.heap.NoLimit) (hg : s0.gens = #[])
    (tz : ∀ c ∈ cs, s0.heap.get? c.2 = some tab0) (tn : ∀ c ∈ cs, K.lookup c.2 = none) (hd : ∀ c ∈ cs, PySem.W.CodeHd s0.heap c.1 c.2)
    (bmn : ∃ (bm : Addr) (ob : Obj), mg "__builtins__" = some (.ref bm) ∧ bm ≠ builtinsNs ∧ s0.heap.get? bm = some ob ∧ ob.cls = .type "module" ∧ ob.dict = some builtinsNs ∧ ob.data = .plain)
    (ha : s0.heap.get? a = some (listO vs)) (hi : IntsAre vs ns) (hl : ns.length ≤ sizeLine) (room : Room k callerA)
    (G : ∀ base : Heap, K.In base → base.Ns mainGlobals mg → (∀ c ∈ cs, TabB base mg c.1 c.2) → GnOk P w K mg base CXa k fa fd [x] sp) (nothing : ∀ outer H s e s', ¬ CXa outer H s (fun _ _ _ => False) e s') (bind1 : ∀ (s : Shared) (u : Value), BindsTo s fd ⟨[u], []⟩ [(x, u)])
    (due : ∀ H : Hp, (∀ c ∈ cs, H c.2 = some (.tbl #[])) → SqL K H a (ns.map V.int) → sp [.ref a] H (fun v _ => v = .bl true) fun _ _ _ => False) :
    codeAny (model P w) callerA (.call (.ref fa) ⟨[.ref a], []⟩) (fun r s' => r = .ok (.ret (.bool true)) ∧ OldK s0.heap s'.heap ∧ s'.os = s0.os ∧ AllBare s'.gens) s0 := by
  have rv := vals_ints hi
  have many := hi.length
  let ts : List Addr := cs.map Prod.snd
  have inT : ∀ {c}, c ∈ cs → c.2 ∈ ts := fun h => List.mem_map.mpr ⟨_, h, rfl⟩
  have atT : ∀ {b}, b ∈ ts → s0.heap.get? b = some tab0 := by
    intro b h
    obtain ⟨c, h1, rfl⟩ := List.mem_map.mp h
    exact tz c h1
  have aT : a ∉ ts := by
    intro h
    have z := (atT h).symm.trans ha
    cases congrArg Obj.data (Option.some.inj z)
  have main : ∀ H : Hp, (∀ b ∈ ts, H b = some (.tbl #[])) → (∀ b, b ∉ ts → H b = none ∨ ∃ o xs, H b = some (.frz o (.lst xs))) → SqL K H a (ns.map V.int) → HOk P w H s0.heap → (∀ b, H b ≠ none → b = a ∨ b ∈ ts) → (H a ≠ none → K.lookup a = none) →
      codeAny (model P w) callerA (.call (.ref fa) ⟨[.ref a], []⟩) (fun r s' => r = .ok (.ret (.bool true)) ∧ OldK s0.heap s'.heap ∧ s'.os = s0.os ∧ AllBare s'.gens) s0 := by
    intro H hT only hS ok hA hK
    have two : ∀ {b : Addr} {z : HO}, H b = some z → b = a ∨ b ∈ ts := fun {b z} q => hA b (by rw [q]; exact fun y => by cases y)
    -- what is neither a list nor an empty table is not told
    have off : ∀ {b : Addr} {o : Obj}, s0.heap.get? b = some o → (∀ vs n, o.data ≠ .seq vs n) → o.data ≠ .fields #[] → H b = none := by
      intro b o e n1 n2
      cases q : H b with
      | none => rfl
      | some u =>
        rcases two q with rfl | h
        · rw [ha] at e; cases e; exact (n1 _ _ rfl).elim
        · rw [atT h] at e; cases e; exact (n2 rfl).elim
    have plain : ∀ {b : Addr} {o : Obj} {es : Array DictEntry} {ep : Nat}, s0.heap.get? b = some o → o.data = .dict es ep → H b = none := by
      intro b o es ep e d
      exact off e (fun _ _ z => by rw [d] at z; cases z) (fun z => by rw [d] at z; cases z)
    have ns' : ∀ {b : Addr} {m : Str → Option Value}, s0.heap.Ns b m → (hidT s0.heap H).Ns b m := by
      rintro b m ⟨o, es, ep, e, d, r⟩
      exact ⟨o, es, ep, hidT_get e (plain e d), d, r⟩
    have Kb : K.In (hidT s0.heap H) := by
      intro b o e
      refine hidT_get (KX b o e) ?_
      cases q : H b with
      | none => rfl
      | some u =>
        rcases two q with rfl | h
        · rw [hK (by rw [q]; exact fun y => by cases y)] at e; cases e
        · obtain ⟨c, h1, rfl⟩ := List.mem_map.mp h
          rw [tn c h1] at e; cases e
    have TB : ∀ c ∈ cs, TabB (hidT s0.heap H) mg c.1 c.2 := by
      intro c hc
      obtain ⟨og, eg, pg, e0, dg, _⟩ := hns
      have dg' : ∀ {b}, s0.heap.get? b = some og → b ∉ ts := fun {b} e h => by rw [atT h] at e; cases e; cases dg
      refine ⟨?_, ?_, fun z => dg' e0 (z ▸ inT hc)⟩
      · obtain ⟨o, us, file, tf, flags, tg, inF, text, tt, e1, r1, r2, r3, rest⟩ := hd c hc
        refine ⟨o, us, file, tf, flags, tg, inF, text, tt, hidT_get e1 (off e1 (fun _ _ z => by rw [r2] at z; cases z) fun z => ?_), r1, r2, r3, rest⟩
        rw [r2] at z
        cases z
        simp at r3
      · obtain ⟨bm, ob, m1, m2, m3, m4, m5, m6⟩ := bmn
        have nG : bm ≠ mainGlobals := by
          rintro rfl
          rw [e0] at m3; cases m3
          rw [dg] at m6; cases m6
        have nP : bm ≠ c.2 := by
          rintro rfl
          rw [tz c hc] at m3; cases m3
          cases m6
        exact ⟨bm, ob, m1, m2, nG, nP, hidT_get m3 (off m3 (fun _ _ z => by rw [m6] at z; cases z) fun z => by rw [m6] at z; cases z), m4, m5, m6⟩
    have e0 : Env0 P w K mg (hidT s0.heap H) callerA [] s0 H := by
      refine ⟨rfl, ⟨Kb, ns' hns, ⟨mb, ns' hb, hbb⟩, ?_⟩, fun b o e => of_hidT e, Nat.le_of_eq (hidT_size _ _), trivial, ?_, ok, .of_eq hg⟩
      · obtain ⟨mc, h1, h2⟩ := hlim
        exact ⟨mc, ns' h1, h2⟩
      · intro b hb
        exact absurd (show b ∈ ([] : List Addr) from hb) (by simp)
    refine codeAny_mono ((G _ Kb (ns' hns) TB).go (args := ⟨[.ref a], []⟩) (us := [.ref a]) (vs := [V.ref a]) room rfl e0 (bind1 s0 (.ref a)) (.cons rfl .nil) (due H (fun c hc => hT _ (inT hc)) hS)) ?_
    intro r s' z
    match r, z with
    | .error _, z => exact absurd z (nothing _ _ _ _ _)
    | .ok .next, z => exact z.elim
    | .ok .brk, z => exact z.elim
    | .ok .cont, z => exact z.elim
    | .ok (.ret u), ⟨v, H', os, bare, un, ok', r', q⟩ =>
      obtain rfl : v = .bl true := q
      obtain rfl : u = Value.bool true := r'
      have stays : ∀ b o, b ∉ ts → s0.heap.get? b = some o → s'.heap.get? b = some o := by
        intro b o nb e
        cases q : H b with
        | none => exact un.keep b o e q (fun z => absurd (show b ∈ ([] : List Addr) from z) (by simp)) (by simp)
        | some u =>
          rcases only b nb with z | ⟨ob, xs, z⟩
          · rw [q] at z
            cases z
          · have e1 := (ok b _ z).1
            have e2 := (ok' b _ (un.frzs b ob _ z)).1
            rw [e] at e1
            cases e1
            exact e2
      have grows : ∀ b ∈ ts, ∃ more : Array Value, s'.heap.get? b = some { cls := .none, data := .fields more } := by
        intro b h
        obtain ⟨more, z⟩ := un.tbls b #[] (hT b h)
        exact ⟨_, ok' b _ z⟩
      refine ⟨rfl, ⟨fun b o e => ?_, fun b o e => ?_⟩, os, bare⟩
      · by_cases h : b ∈ ts
        · obtain ⟨more, m⟩ := grows b h
          obtain ⟨c, h1, rfl⟩ := List.mem_map.mp h
          rw [tz c h1] at e
          cases e
          exact .inr (.inl ⟨((hd c h1).tab (tz c h1)).isCodeTable, rfl, #[], more, rfl, by rw [Array.empty_append]; exact m⟩)
        · exact .inl (stays b o h e)
      · by_cases h : b ∈ ts
        · obtain ⟨more, m⟩ := grows b h
          exact ⟨_, m⟩
        · exact ⟨o, stays b o h e⟩
  cases hk : K.lookup a with
  | some o =>
    have e := KX a o hk
    rw [ha] at e
    cases e
    refine main (fun b => if b ∈ ts then some (.tbl #[]) else none) (fun b h => if_pos h) (fun b h => .inl (if_neg h)) (.inr ⟨_, vs.toArray, _, hk, rfl, rfl, rfl, by rw [List.size_toArray, many]; exact hl, by simpa using rv⟩) ?_ ?_ fun z => absurd (if_neg aT) z
    · intro b u z
      by_cases h : b ∈ ts
      · have z' := (if_pos h).symm.trans z
        cases z'
        exact atT h
      · have z' := (if_neg h).symm.trans z
        cases z'
    · intro b z
      by_cases h : b ∈ ts
      · exact .inr h
      · exact absurd (if_neg h) z
  | none =>
    have at1 : (if a = a then some (HO.frz (listO vs) (.lst (ns.map V.int))) else if a ∈ ts then some (.tbl #[]) else none) = some (.frz (listO vs) (.lst (ns.map V.int))) := if_pos rfl
    refine main (fun b => if b = a then some (.frz (listO vs) (.lst (ns.map V.int))) else if b ∈ ts then some (.tbl #[]) else none) ?_ ?_ (.inl (.inr ⟨_, at1⟩)) ?_ ?_ fun _ => hk
    · intro b h
      have ne : b ≠ a := fun z => aT (z ▸ h)
      exact (if_neg ne).trans (if_pos h)
    · intro b h
      by_cases e : b = a
      · exact .inr ⟨_, _, if_pos e⟩
      · exact .inl ((if_neg e).trans (if_neg h))
    · intro b u z
      by_cases e : b = a
      · have z' := (if_pos e).symm.trans z
        cases z'
        subst e
        exact ⟨ha, by rw [List.length_map]; exact hl, vs, _, rv, ha⟩
      · have z1 := (if_neg e).symm.trans z
        by_cases h : b ∈ ts
        · have z' := (if_pos h).symm.trans z1
          cases z'
          exact atT h
        · have z' := (if_neg h).symm.trans z1
          cases z'
    · intro b z
      by_cases e : b = a
      · exact .inl e
      · by_cases h : b ∈ ts
        · exact .inr h
        · exact absurd ((if_neg e).trans (if_neg h)) z
/-- the defs that make lambdas: each with its code object and its table -/
def TabsOf (q : Program) (K : PySem.W.Frag) (cs : List (Str × Addr × Addr)) : Prop := ∀ c ∈ cs, ((recsOf q).find? fun e => e.name == c.1).isSome = true ∧ PySem.W.tabIn K c.1 = some c.2 ∧ K.lookup c.2.2 = none
theorem gwalkT {l : PySem.W.OpenLaw} {n k : Nat} {q : Program} {loose : List Str} {XP : (Str → Option Value) → Heap → Prop} {YP : World → Heap → Prop} {d : DefRec} {K : Params → PySem.W.Frag} {x : Str}
    (most : l.most = some n) (le : n ≤ sizeLine) (dfl : d.params.defaults = []) (room : Room k callerA) (inY : ∀ (w : World) (h : Heap), YP w h → (K w.params).In h)
    (G : ∀ (w : World) (mg : Str → Option Value) (fa : Addr) (h : Heap), (K w.params).In h → h.Ns mainGlobals mg → mg d.name = some (.ref fa) →
      ∃ (cs : List (Str × Addr × Addr)) (sp : Sp) (fd : FuncData), TabsOf q (K w.params) cs ∧ (∀ (s : Shared) (u : Value), BindsTo s fd ⟨[u], []⟩ [(x, u)]) ∧
        (∀ (H : Hp) (a : Addr) (ns : List Int), ns.length ≤ n → (∀ c ∈ cs, H c.2.2 = some (.tbl #[])) → SqL (K w.params) H a (ns.map V.int) → sp [.ref a] H (fun v _ => v = .bl true) fun _ _ _ => False) ∧
        ∀ base : Heap, (K w.params).In base → base.Ns mainGlobals mg → (∀ c ∈ cs, TabB base mg c.2.1 c.2.2) → GnOk l.prog w (K w.params) mg base (L2.CX l.prog w) k fa fd [x] sp) :
    PySem.W.WalkO q loose XP YP l.row.toRowW d [] (fun f vs => PySem.call f vs) := by
  refine Att.attach_call most dfl ?_
  intro w s0 s1 mg mb fa o pm cd doc a vs ns G0 Y ho hd hcd hmg hobj hints hlen hg
  have KX := inY w _ Y
  obtain ⟨cs, sp, fd, tabs, hb, due, hF⟩ := G w mg fa _ KX G0.T.g hmg
  have look : ∀ c ∈ cs.map Prod.snd, ∃ c0 ∈ cs, c = c0.2 ∧ PySem.W.CodeHd s1.heap c.1 c.2 ∧ s1.heap.get? c.2 = some tab0 := by
    intro c hc
    obtain ⟨c0, h0, rfl⟩ := List.mem_map.mp hc
    obtain ⟨f1, f2, f3⟩ := tabs c0 h0
    obtain ⟨dr, hdr⟩ := Option.isSome_iff_exists.mp f1
    obtain ⟨g1, g2⟩ := PySem.W.tab_of G0.T KX hdr f2
    exact ⟨c0, h0, rfl, g1, g2⟩
  refine glaw_callT (cs := cs.map Prod.snd) KX G0.T.g G0.T.b G0.T.builtins G0.T.nolimit hg (fun c hc => ?_) (fun c hc => ?_) (fun c hc => ?_) G0.T.bmain hobj hints (Nat.le_trans hlen le) room (fun base KB NB TB => hF base KB NB fun c hc => TB c.2 (List.mem_map.mpr ⟨c, hc, rfl⟩))
    (fun _ _ _ _ _ ⟨_, _, _, _, _, _, _, _, _, _, _, _, z⟩ => z) hb fun H hT hS => due H a ns hlen (fun c hc => hT c.2 (List.mem_map.mpr ⟨c, hc, rfl⟩)) hS
  · obtain ⟨_, _, _, _, z⟩ := look c hc; exact z
  · obtain ⟨c0, h0, rfl, _⟩ := look c hc; exact (tabs c0 h0).2.2
  · obtain ⟨_, _, _, z, _⟩ := look c hc; exact z
/-- the tables are in order at the law's start -/
theorem tabs0 {H : Hp} {cs : List (Str × Addr × Addr)} (f : Str → Str) (h : ∀ c ∈ cs, H c.2.2 = some (.tbl #[])) : Tabs (cs.map fun c => (c.2.2, f c.1)) H := by
  intro p hp
  obtain ⟨c, hc, rfl⟩ := List.mem_map.mp hp
  exact .nil (h c hc)
end DL

set_option maxHeartbeats 4000000
/-! DL13: enumerate over a text, range with a step, min of three, tuple(..), targets out of a list, a def in a slot. -/
namespace DL
open PySem PySem.Spec L2
open PyProof.Rows hiding St

section
variable {X : Cx} {Y : KJ X.K} {pos p tpos : Pos} {e e2 e3 : Expr} {t u v : DTE} {elts : List Expr} {kk : Nat}
/-! ### enumerate over a text -/
def numD (xs : List DL.D) : List DL.D := (xs.zipIdx).map fun p => .tup [.int (p.2 : Nat), p.1]
def IteS (x : Str) : It := ⟨fun i _ => i < x.cps.size,
  fun i H v H' => ∃ T c, v = .ref T ∧ H T = none ∧ H' = upd H T (.tup [.int (i : Nat), .str ⟨#[c]⟩]) ∧ x.cps[i]? = some c,
  fun i _ => i = x.cps.size⟩
theorem turn_enumS {P : Program} {w : World} {K : PySem.W.Frag} {a it : Addr} {x : Str} {tk : Tok} (ne : a ≠ it) :
    Turn P w K (.Tuple elts kk tpos) (IteS x) [a, it] a (fun i h => (∃ old, IsEnum h a it ((i : Nat) : Int) old) ∧ h.IsStrIter it (strIterType x) x tk i) where
  mem := by simp
  obj := fun i h st c hc => by
    obtain ⟨⟨old, he⟩, o, e1, _, d1⟩ := st
    have e' : c = a ∨ c = it := by simpa using hc
    rcases e' with q | q
    · rw [q]; exact ⟨_, he, fun v q => nomatch q⟩
    · rw [q]; exact ⟨o, e1, fun v q => by rw [d1] at q; cases q⟩
  keep := fun i h h' st kp => by
    obtain ⟨⟨old, he⟩, o, e1, c1⟩ := st
    exact ⟨⟨old, kp a (by simp) _ he⟩, o, kp it (by simp) o e1, c1⟩
  item := by
    intro X hP hw hK hc i pins s σ H E I hf st hg
    subst hP hw hK
    obtain ⟨⟨old, he⟩, hs⟩ := st
    have D1 := Draws.text (prog := X.prog) (w := X.w) (A := X.A.in1) (I.ok.hd hc) it x tk
    have al : a < s.heap.objs.size := Heap.lt_size he
    have il : it < s.heap.objs.size := by obtain ⟨_, z, _⟩ := hs; exact Heap.lt_size z
    refine wpAny_pyNext_enum_itemD D1 he hs hg ne (by simpa using ne) fun y h' tk' py out hs' hT hsz hk => ?_
    obtain ⟨c, u, hx, rfl⟩ := py
    refine ⟨_, rfl, wpAny_letOwnedTupleGo_enum (s := { s with heap := h', toks := tk' + 1 }) out fun h'' he' sb => ?_⟩
    have hT2 : h''.get? s.heap.objs.size = some { cls := .type "tuple", data := .seq #[.int (i : Nat) tk', .str ⟨#[c]⟩ u] } := (sb.2 _ (Nat.ne_of_gt al)).trans hT
    have new : ObjOk X.prog X.w (upd H s.heap.objs.size (.tup [.int (i : Nat), .str ⟨#[c]⟩])) h'' s.heap.objs.size (.tup [.int (i : Nat), .str ⟨#[c]⟩]) :=
      ⟨by show 2 ≤ sizeLine; decide, [.int (i : Nat) tk', .str ⟨#[c]⟩ u], .cons ⟨_, rfl⟩ (.cons ⟨u, rfl⟩ .nil), ⟨_, hT2, rfl, _, rfl⟩⟩
    have I1 : Inv X pins σ (upd H s.heap.objs.size (.tup [.int (i : Nat), .str ⟨#[c]⟩])) { s with heap := h'', toks := tk' + 1 } :=
      I.turnedNew (t' := tk' + 1) (ch := [a, it]) (fun b o hb q => (sb.2 b (fun z => hb (by simp [z]))).trans (hk b o (fun z => hb (by simp [z])) (fun z => hb (by simp [z])) q)) hf (Nat.le_refl _) new
    refine ⟨.ref s.heap.objs.size, _, I1, rfl, ⟨_, c, rfl, I.hok.fresh (Nat.le_refl _), rfl, hx⟩, ⟨⟨.str ⟨#[c]⟩ u, ?_⟩, ?_⟩, fun b hb => ?_⟩
    · have e1 : ((i + 1 : Nat) : Int) = (i : Int) + 1 := by omega
      rw [e1]; exact he'
    · obtain ⟨o, e1, c1⟩ := hs'
      exact ⟨o, (sb.2 _ (fun q => ne q.symm)).trans e1, c1⟩
    · have e' : b = a ∨ b = it := by simpa using hb
      have lt : b < s.heap.objs.size := by rcases e' with q | q <;> rw [q] <;> assumption
      rw [upd_ne (Nat.ne_of_lt lt)]
      exact (hf b hb).1
  done := by
    intro X hP hw hK hc i pins s σ H E I hf st hg
    subst hP hw hK
    obtain ⟨⟨old, he⟩, hs⟩ := st
    obtain ⟨f0, f1, f2, f3, f4, f5⟩ := hf it (by simp)
    have D1 := Draws.text (prog := X.prog) (w := X.w) (A := X.A.in1) (I.ok.hd hc) it x tk
    have hg' : i = x.cps.size := hg
    subst hg'
    exact wpAny_pyNext_enum_endD D1 he hs fun h' eb => ⟨rfl, I.turned (t' := s.toks) (fun b o hb q => eb b o hb q) f0 f1 f3 f4 f5⟩
  self := fun A i s Q E st h => let ⟨⟨_, he⟩, _⟩ := st; wpAny_pyIter_enum he h
def iEnumS (ta : TA) : TI := fun σ H R => ta σ H fun vs H1 => ∃ x, vs = [.str x] ∧ R (IteS x) H1
theorem pi_enumS {ta : TA} (hg : Gl X "enumerate") (hm : X.mg "enumerate" = none) (ha : PA X [e] ta) (hs : starEach [e] X.env = (false, eval e X.env) :: starEach [] X.env) :
    PI X (.Tuple elts kk tpos) (.Call (.Name "enumerate" p) [e] [] pos) (iEnumS ta) := by
  constructor
  intro pins s σ H R I h
  refine Call_ (ld_blt I hg hm boot_enumerate (PyProof.Rows.callWith_type1 (thn (ha.run pos pins s σ H _ I h) ?_) hs rfl))
  rintro us s1 ⟨vs, H1, I1, r1, x, rfl, q⟩
  obtain ⟨u1, rfl, ⟨t1, rfl⟩⟩ := vals1 r1
  refine call_enumerate_str fun h' he hit hsz hk => wpAny_pyIter_enum he ?_
  have I2 : Inv X pins σ H1 { s1 with heap := h' } := I1.kept (t' := s1.toks) hk
  refine ⟨s1.heap.objs.size + 1, [s1.heap.objs.size + 1, s1.heap.objs.size], _, _, H1, rfl, I2, turn_enumS (Nat.succ_ne_self _), ⟨⟨.none, he⟩, hit⟩, fun b hb => ?_, q⟩
  have e' : b = s1.heap.objs.size + 1 ∨ b = s1.heap.objs.size := by simpa using hb
  have le : s1.heap.objs.size ≤ b := by
    rcases e' with z | z
    · rw [z]; exact Nat.le_add_right _ _
    · rw [z]; exact Nat.le_refl _
  exact I1.fpOk le (I1.hok.fresh le)
def dEnumS (t : DTE) : DTI := fun ρ M R => t ρ M fun d M1 => ∃ x, d = .str x ∧ R (numD (signs x)) (fun _ => True) M1
theorem numD_get {xs : List DL.D} {i : Nat} {d : DL.D} (h : (numD xs)[i]? = some d) : ∃ x, xs[i]? = some x ∧ d = .tup [.int (i : Nat), x] := by
  unfold numD at h
  rw [List.getElem?_map, List.getElem?_zipIdx] at h
  cases e : xs[i]? with
  | none => rw [e] at h; cases h
  | some x => rw [e] at h; cases h; exact ⟨x, rfl, by simp⟩
theorem di_enumS (hm : X.mg "enumerate" = none) (he : DE X Y e t) (hg : Gl X "enumerate" := by rfl) (hs : starEach [e] X.env = (false, eval e X.env) :: starEach [] X.env := by rfl) :
    DI X Y (.Tuple elts kk tpos) (.Call (.Name "enumerate" p) [e] [] pos) (dEnumS t) := by
  refine PI.weak (pi_enumS hg hm (pa_cons he pa_nil hs) hs) ?_
  rintro σ H R0 ⟨F, M, ρ, R, rs, rl, q, k⟩
  refine ⟨F, M, ρ, _, rs, rl, q, fun v d F1 M1 H1 s1 rp1 ⟨x, ex, q1⟩ => ?_⟩
  subst ex
  cases rp1
  refine ⟨x, rfl, k _ _ _ F1 M1 H1 s1 ⟨fun F3 M3 H3 s3 r3 g => ?_⟩ q1⟩
  have hl : (numD (signs x)).length = x.cps.size := by unfold numD signs; simp
  refine ⟨hl, fun i dd hi => ?_⟩
  have hlt : i < x.cps.size := by rw [← hl]; exact (List.getElem?_eq_some_iff.mp hi).1
  obtain ⟨a, ha, rfl⟩ := numD_get hi
  refine ⟨hlt, fun vv H4 yy => ?_⟩
  obtain ⟨T, c, rfl, hT, eH, hx⟩ := yy
  unfold signs at ha
  rw [List.getElem?_map, Array.getElem?_toList, hx] at ha
  cases ha
  exact jw_pair s3 r3 (.int _) (.str _) hT eH

/-! ### range(i, j, -1) -/
def dnD (i : Int) (n : Nat) : List DL.D := (List.range n).map fun k => .int (i + (k : Nat) * (-1))
def dRangeDn (t u v : DTE) : DTI := fun ρ M R => t ρ M fun d M1 => u ρ M1 fun d' M2 => v ρ M2 fun d'' M3 => ∃ i j, d = .int i ∧ d' = .int j ∧ d'' = .int (-1) ∧ (-(2 ^ 62) ≤ i ∧ i < 2 ^ 62 ∧ -(2 ^ 62) ≤ j ∧ j < 2 ^ 62) ∧ R (dnD i (i - j).toNat) (fun _ => True) M3
theorem jw_down {K : PySem.W.Frag} {Y : KJ K} {F : Hp} {lo : Int} {n : Nat} : JW Y F (Itc lo (-1) n) (dnD lo n) (fun _ => True) := by
  refine ⟨fun F1 M1 H1 s r g => ⟨by show n ≤ (dnD lo n).length; simp [dnD], fun i d hi => ?_⟩⟩
  unfold dnD at hi
  rw [List.getElem?_map] at hi
  by_cases h : i < n
  · rw [List.getElem?_range h] at hi
    cases hi
    refine ⟨h, fun v H2 ⟨e2, hv⟩ => ?_⟩
    subst e2 hv
    exact ⟨F1, Stp.refl r, .int _⟩
  · rw [List.getElem?_eq_none (by simpa using h)] at hi
    cases hi
theorem di_rangeDn {tg : Expr} (hm : X.mg "range" = none) (he : DE X Y e t) (he2 : DE X Y e2 u) (he3 : DE X Y e3 v) (hg : Gl X "range" := by rfl) (hs : starEach [e, e2, e3] X.env = (false, eval e X.env) :: starEach [e2, e3] X.env := by rfl)
    (hs2 : starEach [e2, e3] X.env = (false, eval e2 X.env) :: starEach [e3] X.env := by rfl) (hs3 : starEach [e3] X.env = (false, eval e3 X.env) :: starEach [] X.env := by rfl) (hpl : (backTo pos (starEach [e2, e3] X.env)).any (·.1) = false := by rfl) :
    DI X Y tg (.Call (.Name "range" p) [e, e2, e3] [] pos) (dRangeDn t u v) := by
  refine PI.weak (pi_range3 hg hm (pa_cons he (pa_cons he2 (pa_cons he3 pa_nil hs3) hs2) hs) hs hpl) ?_
  rintro σ H R0 ⟨F, M, ρ, R, rs, rl, q, k⟩
  refine ⟨F, M, ρ, _, rs, rl, q, fun v1 d1 F1 M1 H1 s1 rp1 q1 => ?_⟩
  refine ⟨F1, M1, ρ, _, rs.mono s1.same, s1.rel, q1, fun v2 d2 F2 M2 H2 s2 rp2 q2 => ?_⟩
  refine ⟨F2, M2, ρ, _, rs.mono (s1.same.trans s2.same), s2.rel, q2, fun v3 d3 F3 M3 H3 s3 rp3 ⟨i, j, e1, e2, e3, ⟨b1, b2, b3, b4⟩, q3⟩ => ?_⟩
  subst e1 e2 e3
  cases rp1
  cases rp2
  cases rp3
  exact ⟨i, j, -1, _, rfl, RgC.neg b1 b2 b3 b4, k _ _ _ F3 M3 H3 ((s1.trans s2).trans s3) jw_down q3⟩

/-! ### min of three -/
def rMin3D : RDL := fun ds M Q => ∃ i j k, ds = [.int i, .int j, .int k] ∧ Q (.int (let m := if j < i then j else i; if k < m then k else m)) M
theorem rp3 {K : PySem.W.Frag} {F : Hp} {vs : List V} {a b c : DL.D} (r : RpAll K F vs [a, b, c]) : ∃ x y z, vs = [x, y, z] ∧ Rp K F x a ∧ Rp K F y b ∧ Rp K F z c := by
  cases r with
  | cons r1 r =>
    obtain ⟨y, z, rfl, r2, r3⟩ := rp2 r
    exact ⟨_, y, z, rfl, r1, r2, r3⟩
theorem cd_min3 (hc : X.calm = true) : CallD X Y (.builtin "min") rMin3D := by
  intro pins s σ H vs us Q0 I r ⟨F, M, ds, Q, rp, rl, ⟨i, j, k', e, q⟩, k⟩
  subst e
  obtain ⟨v1, v2, v3, rfl, r1, r2, r3⟩ := rp3 rp
  cases r1
  cases r2
  cases r3
  refine call_min3Nu hc pins s σ H _ us Q0 I r ⟨_, _, _, _, rfl, ?_, k _ _ F M H (Stp.refl rl) (.int _) q⟩
  have e1 : nuLt (V.int j) (V.int i) = some (decide (j < i)) := rfl
  by_cases h : j < i
  · have e2 : nuLt (V.int k') (V.int j) = some (decide (k' < j)) := rfl
    by_cases h2 : k' < j <;> simp [nuMin3, nuMin2, e1, e2, h, h2]
  · have e2 : nuLt (V.int k') (V.int i) = some (decide (k' < i)) := rfl
    by_cases h2 : k' < i <;> simp [nuMin3, nuMin2, e1, e2, h, h2]

/-! ### tuple(a text), tuple(a list) -/
theorem extend_signs {prog : Program} {w : World} {A : Around} {E : Value → Shared → Prop} {s : Shared} {x : Str} {tk : Tok} {Q : List Value → Shared → Prop} (calm : A.handled = none) (small : x.cps.size ≤ sizeLine)
    (k : ∀ (h' : Heap) (n : Nat) (acc : Array Value), (∀ b o, s.heap.get? b = some o → h'.get? b = some o) → ItemsOf (SignAt x) acc x.cps.size → Q acc.toList { s with heap := h', toks := n }) :
    wpAny (model prog w) A (collect (.str x tk)) Q E s := by
  have at0 : (s.heap.push { cls := .type "list", data := .seq ([] : List Value).toArray }).get? s.heap.objs.size = some { cls := .type "list", data := .seq #[] 0 } := Heap.get?_push_size _ rfl
  have old : ∀ b o, s.heap.get? b = some o → b ≠ s.heap.objs.size := fun b o q => Nat.ne_of_lt (Heap.lt_size q)
  unfold collect
  apply wpAny_bind
  apply wpAny_runValue
  refine codeAny_builtin F.entry_proto_collect ?_
  rw [Around.under_plainId F.plain_proto_collect _]
  show wpAny _ A.in1 (newList [] >>= fun l => again (.builtin "list.__iadd__" ⟨[l, .str x tk], []⟩)) _ _ s
  apply wpAny_bind
  refine wpAny_newObj_type ?_
  refine wpAny_pure ⟨plainId_quiet F.plain_list_iadd _, codeAny_builtin F.entry_list_iadd ?_⟩
  rw [Around.under_plainId F.plain_list_iadd _]
  show wpAny _ A.in1 (Builtin.List.listExtendWith (.ref s.heap.objs.size) (.str x tk) (.ref s.heap.objs.size)) _ _ _
  let R : Result → Shared → Prop := fun rr s' => rr = .ok (.ret (.ref s.heap.objs.size)) ∧ ∃ (h' : Heap) (n : Nat) (acc : Array Value) (c : Nat), s' = { s with heap := h', toks := n } ∧
      (∀ b o, s.heap.get? b = some o → h'.get? b = some o) ∧ h'.get? s.heap.objs.size = some { cls := .type "list", dict := none, data := .seq acc c, slots := #[] } ∧ ItemsOf (SignAt x) acc x.cps.size
  have ends : ∀ (rr : Result) (s' : Shared), R rr s' → ∃ acc : Array Value, rr = .ok (.ret (.ref s.heap.objs.size)) ∧ wpAny (model prog w) A (load s.heap.objs.size >>= fun o => pure o) (fun o s'' => ∃ c, o = { cls := .type "list", dict := none, data := .seq acc c, slots := #[] } ∧ Q acc.toList s'') E s' := by
    rintro rr s' ⟨rfl, h', n, acc, c, rfl, kp, a1, it⟩
    exact ⟨acc, rfl, wpAny_bind (wpAny_load a1 (wpAny_pure ⟨c, rfl, k h' n acc kp it⟩))⟩
  refine wpAny_mono (wpAny_extend_str (A := A) (R := R) (s := { s with heap := s.heap.push { cls := .type "list", data := .seq ([] : List Value).toArray } }) (hn := small) calm x tk _ _ 0 at0
    (fun h' n acc c kp a1 it => ⟨rfl, h', n, acc, c, rfl, fun b o q => kp b o (old b o q) (Heap.get?_push_of_some _ q), a1, it⟩)) ?_ ?_
  · intro fin s' h
    match fin, h with
    | .done f, ⟨e, h', n, acc, c, e2, kp, a1, it⟩ =>
      cases e
      subst e2
      show wpAny _ A (load s.heap.objs.size >>= _) _ _ _
      exact wpAny_bind (wpAny_load a1 (wpAny_pure (k h' n acc kp it)))
    | .again c', h =>
      refine ⟨h.1, codeAny_mono h.2 ?_⟩
      rintro rr s'' ⟨rfl, h', n, acc, c, rfl, kp, a1, it⟩
      show wpAny _ A (load s.heap.objs.size >>= _) _ _ _
      exact wpAny_bind (wpAny_load a1 (wpAny_pure (k h' n acc kp it)))
  · intro e s' h
    exact absurd h.1 (by simp)
end
end DL

set_option maxHeartbeats 4000000
/-! DL14: tuple(..), targets out of a list, a def in a slot, promises without exceptions. -/
namespace DL
open PySem PySem.Spec L2
open PyProof.Rows hiding St

section
variable {prog : Program} {w : World} {A : Around} {E : Value → Shared → Prop} {s : Shared}
theorem tuple_signs {x : Str} {tk : Tok} {Q : Value → Shared → Prop} (calm : A.handled = none) (small : x.cps.size ≤ sizeLine)
    (k : ∀ (h' : Heap) (n : Nat) (acc : Array Value), (∀ b o, s.heap.get? b = some o → h'.get? b = some o) → ItemsOf (SignAt x) acc x.cps.size → Q (.ref h'.objs.size) { s with heap := h'.push { cls := .type "tuple", data := .seq acc }, toks := n }) :
    wpAny (model prog w) A (call (.type "tuple") [.str x tk]) Q E s := by
  have code : codeAny (model prog w) A.in1 (.call (.builtin "tuple.__new__") ⟨[.type "tuple", .str x tk], []⟩) (wants (fun obj s1 => s1.TypeIs obj "tuple" ∧ Q obj s1) E) s := by
    apply codeAny_of_tree
    show wpAny _ A.in1.in1 (do checkBuiltinCall "tuple.__new__" ⟨[.type "tuple", .str x tk], []⟩; again (.builtin "tuple.__new__" ⟨[.type "tuple", .str x tk], []⟩)) _ _ s
    refine wpAny_bind (wpAny_of_eq (F.newCall_tuple_1 _) (wpAny_pure ⟨plainId_quiet F.plain_tuple_new _, codeAny_builtin F.entry_tuple_new ?_⟩))
    rw [Around.under_plainId F.plain_tuple_new _]
    have f1 := sub_tuple_self
    have f2 := init_tuple_lookup
    have f3 := madeHere_tuple
    have ty : s.TypeIs (.str x tk) "str" := rfl
    have cl : A.in1.in1.handled = none := calm
    wp_walk using wpAny_typeOf ty, extend_signs (A := A.in1.in1) (x := x) (tk := tk) cl small
    intro h' n acc kp it
    show wpAny _ _ (Builtin.Tuple.tupleExact acc.toList.toArray >>= fun v => ret v) _ _ _
    unfold Builtin.Tuple.tupleExact
    have e : acc.toList.toArray = acc := by simp
    rw [e]
    refine wpAny_bind (wpAny_newObj_type ?_ (by show acc.size ≤ sizeLine; rw [it.1]; exact small))
    exact wpAny_pure ⟨⟨_, Heap.get?_push_size _ rfl, rfl⟩, k h' n acc kp it⟩
  refine callType_codes (Q₁ := fun obj s1 => s1.TypeIs obj "tuple" ∧ Q obj s1) F.called_tuple (F.typeCall_tuple_1 _) F.entry_object_init code ?_
  intro obj s1 h1
  exact ⟨h1.1, F.args_object_init_2 obj _, object_init_meets F.called_tuple.init.lookup F.called_tuple.made (by decide) prog w A.in1 _ s1 ⟨h1.1, rfl, h1.2⟩⟩
end
section
variable {X : Cx} {Y : KJ X.K} {pos p : Pos}
def rTupD : RDL
  | [.str x], M, Q => x.cps.size ≤ sizeLine ∧ Q (.tup (signs x)) M
  | [.tup xs], M, Q => Q (.tup xs) M
  | [d], M, Q => ∃ xs, lstOf M d = some xs ∧ Q (.tup xs) M
  | _, _, _ => False
theorem cd_tup (hc : X.calm = true) : CallD X Y (.type "tuple") rTupD := by
  intro pins s σ H vs us Q0 I r ⟨F, M, ds, Q, rp, rl, q, k⟩
  unfold rTupD at q
  split at q
  · rename_i x
    obtain ⟨v, rfl, r1⟩ := rp1 rp
    obtain ⟨small, q⟩ := q
    cases r1
    obtain ⟨u, rfl, ⟨t, rfl⟩⟩ := vals1 r
    refine tuple_signs (I.ok.hd hc) small fun h' n acc kp it => ?_
    have vals : Vals (x.cps.toList.map fun c => V.str ⟨#[c]⟩) acc.toList := by
      refine vals_of_at (by simp [it.1]) fun i v w hv hw => ?_
      rw [Array.getElem?_toList] at hw
      obtain ⟨c, t, hc, rfl⟩ := it.2 i w hw
      rw [List.getElem?_map, Array.getElem?_toList, hc] at hv
      cases hv
      exact ⟨t, rfl⟩
    have I2 : Inv X pins σ H { s with heap := h', toks := n } := I.kept kp
    refine ⟨.ref _, upd H h'.objs.size (.tup (x.cps.toList.map fun c => V.str ⟨#[c]⟩)), I2.laid (t' := n) (fun b o q => Heap.get?_push_of_some _ q) (Nat.le_refl _) ⟨?_, acc.toList, vals, ?_⟩, rfl, newT_ok rl (signs_rp x) q k _ (I2.hok.fresh (Nat.le_refl _))⟩
    · rw [List.length_map, Array.length_toList]; exact small
    · exact ⟨_, Heap.get?_push_size _ rfl, rfl, _, by rw [Array.toArray_toList]⟩
  · obtain ⟨v, rfl, r1⟩ := rp1 rp
    cases r1 with
    | tup sq ra => exact call_tuple_of pins s σ H _ us Q0 I r ⟨_, _, rfl, .inr ⟨Same.tseq rl.sub sq, k _ _ F M H (Stp.refl rl) (.tup sq ra) q⟩⟩
  · obtain ⟨v, rfl, r1⟩ := rp1 rp
    obtain ⟨xs, e1, q⟩ := q
    obtain ⟨a, ws, rfl, h1, ra⟩ := lstOf_rp rl r1 e1
    exact call_tuple_of pins s σ H _ us Q0 I r ⟨a, ws, rfl, .inl ⟨h1, fun l hl => newT_ok rl ra q k l hl⟩⟩
  · exact q.elim
/-! ### targets out of a list -/
def dgLst (n : Nat) (t : DTGs) : DTG := fun d ρ M Q => ∃ ds, lstOf M d = some ds ∧ ds.length = n ∧ t ds ρ M Q
theorem dg_lst {es : List Expr} {k : Nat} {t : DTGs} {n : Nat} {ws : List Nat} (hc : X.calm = true) (h : DGs X Y es t ws)
    (hn : (assignEach es X.env).length = n := by rfl) (hst : (assignEach es X.env).findIdx? (·.1) = none := by rfl) : DG X Y (.Tuple es k pos) (dgLst n t) ws := by
  refine PG.weak (pg_lst hc h hn hst) ?_
  rintro v σ H Q0 ⟨F, M, ρ, d, Q, rp, rs, r, ⟨ds, e, hl, q⟩, k⟩
  obtain ⟨a, vs, rfl, h1, ra⟩ := lstOf_rp r rp e
  exact ⟨_, _, rfl, h1, by rw [ra.length]; exact hl, F, M, ρ, ds, Q, ra, rs, r, q, k⟩
/-! ### a def in a slot -/
/-- the def at f, by its promise over data -/
def CalA (P : Program) (w : World) (K : PySem.W.Frag) (T : TT8) (mg : Str → Option Value) (base : Heap) (k : Nat) (f : Addr) (sp : DSp) : Prop :=
  ∃ (fd : FuncData) (ps : List Str), GnOk P w K mg base (L2.CX P w) k f fd ps (lift K T sp) ∧ PySem.W.keepIn K (.ref f) = true ∧ Binds K fd ps []
theorem Cal.at {P : Program} {w : World} {K : PySem.W.Frag} {T : TT8} {mg : Str → Option Value} {base : Heap} {k : Nat} {x : Str} {sp : DSp} (C : Cal P w K T mg base k x [] sp) : ∃ f, CalA P w K T mg base k f sp ∧ Glob K mg x (.ref f) := by
  obtain ⟨f, fd, ps, dvs, us, G, m, kp, b, vd, rd⟩ := C.ex
  have := rd (fun _ => Option.none)
  cases this
  cases vd
  exact ⟨f, ⟨fd, ps, G, kp, b⟩, .ref f, .ref f, m, rfl, fun F => .ref f⟩
theorem CalA.mono {P : Program} {w : World} {K : PySem.W.Frag} {T : TT8} {mg : Str → Option Value} {base : Heap} {j k : Nat} {f : Addr} {sp : DSp} (C : CalA P w K T mg base j f sp) (h : j ≤ k) : CalA P w K T mg base k f sp := by
  obtain ⟨fd, ps, G, r⟩ := C
  exact ⟨fd, ps, G.up h, r⟩
def dCallV (i : Nat) (S : Addr → DSp → Prop) (t : DTA) (E : DXK) : DTE := fun ρ M Q => ∃ f sp, ρ[i]? = some (some (.ref f)) ∧ S f sp ∧ t ρ M fun ds M1 => sp ds M1 Q E
theorem de_callV {i k : Nat} {x : Str} {S : Addr → DSp → Prop} {e : Expr} {args : List Expr} {t : DTA} {E : DXK} (A : ∀ f sp, S f sp → CalA X.prog X.w X.K Y.T X.mg X.base k f sp) (hr : Room k X.A) (gu : X.A.guards = some []) (g : XG X Y E) (ha : DA X Y (e :: args) t)
    (hN : X.N[i]? = some x := by rfl) (hv : Vis X.env.scope x := by first | exact Or.inl rfl | exact Or.inr (Or.inl rfl) | exact Or.inr (Or.inr rfl)) (hd : (x == ("__debug__" : Str)) = false := by decide) (hcd : (x == ("__classdict__" : Str)) = false := by decide)
    (he : starEach (e :: args) X.env = (false, eval e X.env) :: starEach args X.env := by rfl) (hpl : (backTo pos (starEach args X.env)).any (·.1) = false := by rfl) :
    DE X Y (.Call (.Name x p) (e :: args) [] pos) (dCallV i S t E) := by
  constructor
  rintro pins s σ H Q0 I ⟨F, M, ρ, Q, rs, rl, ⟨f, sp, er, hS, q⟩, k⟩
  obtain ⟨fd, ps, G, kp, bi⟩ := A f sp hS
  obtain ⟨v, ev, rv⟩ := rs.2 i _ er
  cases rv
  apply wpAny_Call_Name_kw
  refine thn ((pe_var (pos := p) hN hv hd hcd).run pins s σ H (fun v G => v = .ref f ∧ G = H) I ⟨.ref f, ev, rfl, rfl⟩) ?_
  rintro u s1 ⟨w0, G0, I1, rel, e1, e2⟩
  subst e1
  rw [e2] at I1
  obtain rfl : u = Value.ref f := rel
  refine PySem.W.callWith_K (h₀ := X.base) I1.ok.mod.kin kp (thn (ha.run pos pins s1 σ H (fun vs H1 => lift X.K Y.T sp vs H1 Q0 (xw Y E)) I1 ⟨F, M, ρ, _, rs, rl, q, ?_⟩) ?_) he hpl
  · intro vs ds F1 M1 H1 s1 rp q1
    exact ⟨ds, F1, M1, Q, E, rp, s1.rel.r, g.tabs _ _ _ s1.rel.j, q1, fun v d F2 M2 H2 s2 => k v d F2 M2 H2 (s1.trans (Stp.of s1.rel s2)), fun x v cls d F2 M2 H2 s2 e z => ⟨F2, M2, x, v, (Stp.of s1.rel s2).rel, e, z⟩⟩
  · rintro us s2 ⟨vs, H2, I2, r, q2⟩
    refine ⟨I2.kIn, run_gn G hr gu bi .nil g.out I2 r ?_⟩
    rw [List.append_nil]
    exact q2
/-! ### promises without exceptions -/
abbrev DS1 := List DL.D → Mp → DK → Prop
abbrev quiet (sp : DS1) : DSp := fun ds M Q _ => sp ds M Q
abbrev Cal1 (P : Program) (w : World) (K : PySem.W.Frag) (T : TT8) (mg : Str → Option Value) (base : Heap) (k : Nat) (x : Str) (sp : DS1) : Prop := Cal P w K T mg base k x [] (quiet sp)
def dCall1 (sp : DS1) (t : DTA) : DTE := fun ρ M Q => t ρ M fun ds M1 => sp ds M1 Q
theorem de_call1 {k : Nat} {x : Str} {sp : DS1} {e : Expr} {args : List Expr} {t : DTA} (C : Cal1 X.prog X.w X.K Y.T X.mg X.base k x sp) (hr : Room k X.A) (gu : X.A.guards = some []) (g : XT Y) (ha : DA X Y (e :: args) t) (hg : Gl X x := by rfl)
    (hd : (x == ("__debug__" : Str)) = false := by decide) (he : starEach (e :: args) X.env = (false, eval e X.env) :: starEach args X.env := by rfl) (hpl : (backTo pos (starEach args X.env)).any (·.1) = false := by rfl) :
    DE X Y (.Call (.Name x p) (e :: args) [] pos) (dCall1 sp t) := by
  refine PE.weak (de_call C hr gu g ha hg hd he hpl) ?_
  rintro σ H Q0 ⟨F, M, ρ, Q, rs, rl, q, k⟩
  refine ⟨F, M, ρ, Q, rs, rl, ?_, k⟩
  show t ρ M fun ds M1 => sp (ds ++ []) M1 Q
  simp only [List.append_nil]; exact q
theorem de_call10 {k : Nat} {x : Str} {sp : DS1} (C : Cal1 X.prog X.w X.K Y.T X.mg X.base k x sp) (hr : Room k X.A) (gu : X.A.guards = some []) (g : XT Y) (hg : Gl X x := by rfl) (hd : (x == ("__debug__" : Str)) = false := by decide) : DE X Y (.Call (.Name x p) [] [] pos) (dCall1 sp dNil) := by
  refine PE.weak (de_call0 C hr gu g hg hd) ?_
  rintro σ H Q0 ⟨F, M, ρ, Q, rs, rl, q, k⟩
  exact ⟨F, M, ρ, Q, rs, rl, q, k⟩
def dCallE (sp : DSp) (t : DTA) (E : DXK) : DTE := fun ρ M Q => t ρ M fun ds M1 => sp ds M1 Q E
theorem de_callE {k : Nat} {x : Str} {sp : DSp} {e : Expr} {args : List Expr} {t : DTA} {E : DXK} (C : Cal X.prog X.w X.K Y.T X.mg X.base k x [] sp) (hr : Room k X.A) (gu : X.A.guards = some []) (g : XG X Y E) (ha : DA X Y (e :: args) t) (hg : Gl X x := by rfl)
    (hd : (x == ("__debug__" : Str)) = false := by decide) (he : starEach (e :: args) X.env = (false, eval e X.env) :: starEach args X.env := by rfl) (hpl : (backTo pos (starEach args X.env)).any (·.1) = false := by rfl) :
    DE X Y (.Call (.Name x p) (e :: args) [] pos) (dCallE sp t E) := by
  refine PE.weak (de_callX C hr gu g ha hg hd he hpl) ?_
  rintro σ H Q0 ⟨F, M, ρ, Q, rs, rl, q, k⟩
  refine ⟨F, M, ρ, Q, rs, rl, ?_, k⟩
  show t ρ M fun ds M1 => sp (ds ++ []) M1 Q E
  simp only [List.append_nil]; exact q
theorem Cal.on {P : Program} {w : World} {K : PySem.W.Frag} {T T' : TT8} {mg : Str → Option Value} {base : Heap} {k : Nat} {x : Str} {es : List DL.D} {sp : DSp} (C : Cal P w K T mg base k x es sp) (h : T' = T) : Cal P w K T' mg base k x es sp := h ▸ C
theorem CalA.on {P : Program} {w : World} {K : PySem.W.Frag} {T T' : TT8} {mg : Str → Option Value} {base : Heap} {k : Nat} {f : Addr} {sp : DSp} (C : CalA P w K T mg base k f sp) (h : T' = T) : CalA P w K T' mg base k f sp := h ▸ C
theorem dcal1 {P : Program} {w : World} {K : PySem.W.Frag} {T : TT8} {mg : Str → Option Value} {base : Heap} {x qual : Str} {st : Stmt} {N ps : List Str} {k : Nat} {sp : DS1} (h : Has K mg x qual st ps []) (S : FnScope N ps (defScope st)) {t : DTS}
    (body : ∀ f, DBody P w K T mg base k N qual st f fun _ => t) (read : ∀ ds M Q, sp ds M Q → ds.length = ps.length ∧ t { nx := fun _ M' => Q .non M', rt := Q } (dstart N ds) M) : Cal1 P w K T mg base (k + 1) x sp :=
  dcal h S body fun ds M Q E => read ds M Q
theorem Cal1.weak {P : Program} {w : World} {K : PySem.W.Frag} {T : TT8} {mg : Str → Option Value} {base : Heap} {k : Nat} {x : Str} {sp1 sp2 : DS1} (C : Cal1 P w K T mg base k x sp1)
    (h : ∀ ds M Q, sp2 ds M Q → sp1 ds M fun d M1 => ∃ M2, SubM M2 M1 ∧ Q d M2) : Cal1 P w K T mg base k x sp2 := Cal.weak C fun ds M Q E => h ds M Q
end
end DL

set_option maxHeartbeats 4000000
/-! DL15: defs that make lambdas. -/
namespace DL
open PySem PySem.Spec L2
open PyProof.Rows hiding St

/-- the name of the lambdas of the def x -/
def lamQ (x : Str) : Str := x ++ ".<locals>." ++ "<lambda>"
/-- a body whose code object is known -/
def DBodyC (P : Program) (w : World) (K : PySem.W.Frag) (T : TT8) (mg : Str → Option Value) (base : Heap) (k : Nat) (N : List Str) (qual : Str) (st : Stmt) (f : Addr) (cdv : Value) (t : DXK → DTS) : Prop :=
  ∀ (A : Around) (outer : List Env) (s : Shared) (H : Hp) (E : XK) (Y : KJ K) (E1 : DXK), Y.T = T → Room k (A.deeper (envOfC qual (defScope st) s.heap.objs.size f cdv)) → (A.deeper (envOfC qual (defScope st) s.heap.objs.size f cdv)).guards = some [] →
    XG (cxOf (L2.CX P w) P w K mg base N qual (defScope st) f cdv A outer s H E) Y E1 → DSs (cxOf (L2.CX P w) P w K mg base N qual (defScope st) f cdv A outer s H E) Y (defBody st) (t E1)
section
variable {P : Program} {w : World} {K : PySem.W.Frag} {T : TT8} {mg : Str → Option Value} {base : Heap} {x : Str} {st : Stmt} {N ps : List Str} {k : Nat} {sp : DSp} {f : Addr} {oc : Value} {od : Option Addr} {dV kV doc pm : Value} {an : Option Addr} {cd ct : Value} {osl : Array (Option Value)}
theorem dgnL (lk : K.lookup f = some ⟨oc, od, .func (PySem.W.fnOf x x (defArgs st) (defBody st) (defScope st) dV kV doc pm an cd ct), osl⟩) (hcd : PySem.W.codeIn K cd x = true) (S : FnScope N ps (defScope st)) {t : DXK → DTS}
    (body : DBodyC P w K T mg base k N x st f cd t) (read : ∀ ds M Q E, sp ds M Q E → ds.length = ps.length ∧ t E { nx := fun _ M' => Q .non M', rt := Q } (dstart N ds) M) :
    GnOk P w K mg base (L2.CX P w) (k + 1) f (PySem.W.fnOf x x (defArgs st) (defBody st) (defScope st) dV kV doc pm an cd ct) ps (lift K T sp) := by
  refine gfn_of lk hcd S ?_ ?_
  · rintro vs H Q E0 ⟨ds, F, M, Q, E, rp, _, _, q, _⟩
    rw [rp.length]; exact (read ds M Q E q).1
  · rintro A outer s H vs Q0 E0 room gu ⟨ds, F, M, Q, E, rp, r, tb, q, kk, ke⟩
    have g : XG (cxOf (L2.CX P w) P w K mg base N x (defScope st) f cd A outer s H E0) (fromE K T F M H) E :=
      ⟨fun F M H j => j.2, fun cls d _ H => E0 cls d H, takes_of rfl rfl rfl rfl, fun σ F' M' H' y v cls d R e z => ke y v cls d F' M' H' R.j.1 e z⟩
    have s0 : Rel (fromE K T F M H) F M H := ⟨r, StpR.refl r, tb⟩
    exact ⟨_, body A outer s H E0 (fromE K T F M H) E rfl room gu g, F, M, dstart N ds, _, relS_start rp, s0, (read ds M Q E q).2, ⟨fun _ _ F' M' H' s' _ q' => kk .non .non F' M' H' s'.s .non q', fun v d F' M' H' s' rp' q' => kk v d F' M' H' s'.s rp' q', fun _ _ _ _ _ _ _ z => z.elim, fun _ _ _ _ _ _ _ z => z.elim⟩⟩
/-- a def of the text whose code object is at c -/
def HasL (K : PySem.W.Frag) (mg : Str → Option Value) (x : Str) (st : Stmt) (ps : List Str) (c : Addr) : Prop :=
  ∃ (f : Addr) (oc : Value) (od : Option Addr) (kV doc pm : Value) (an : Option Addr) (ct : Value) (osl : Array (Option Value)),
    K.lookup f = some ⟨oc, od, .func (PySem.W.fnOf x x (defArgs st) (defBody st) (defScope st) .none kV doc pm an (.ref c) ct), osl⟩ ∧ PySem.W.codeIn K (.ref c) x = true ∧ PySem.W.keepIn K (.ref f) = true ∧ mg x = some (.ref f) ∧ Binds K (PySem.W.fnOf x x (defArgs st) (defBody st) (defScope st) .none kV doc pm an (.ref c) ct) ps []
theorem code_tab {c PP : Addr} (a : PySem.W.nsIn K mainGlobals x = some (some (.ref f))) (lk : K.lookup f = some ⟨oc, od, .func (PySem.W.fnOf x x (defArgs st) (defBody st) (defScope st) dV kV doc pm an cd ct), osl⟩) (t : PySem.W.tabIn K x = some (c, PP)) : cd = .ref c := by
  unfold PySem.W.tabIn at t
  rw [a] at t
  simp only [lk] at t
  cases cd with
  | ref c' =>
    simp only at t
    split at t
    · split at t
      · cases t; rfl
      · cases t
    · cases t
  | _ => simp at t
theorem hasL_of {h : Heap} (X : K.In h) (G : h.Ns mainGlobals mg) (D : Dfn K x st) {c PP : Addr} (t : PySem.W.tabIn K x = some (c, PP))
    (b : ∀ (kV doc pm : Value) (an : Option Addr) (cd ct : Value) (us : List Value), us.length = ps.length → bindArgs (PySem.W.fnOf x x (defArgs st) (defBody st) (defScope st) .none kV doc pm an cd ct) ⟨us, []⟩ = pure (ps.zip us)) : HasL K mg x st ps c := by
  obtain ⟨f, oc, od, kV, doc, pm, an, cd, ct, osl, a, l, hc, k⟩ := D
  obtain rfl := code_tab a l t
  exact ⟨f, oc, od, kV, doc, pm, an, ct, osl, l, hc, k, PySem.W.mg_of X G a, .all (b kV doc pm an _ ct)⟩
theorem dcalL {c : Addr} (h : HasL K mg x st ps c) (S : FnScope N ps (defScope st)) {t : DXK → DTS} (body : ∀ f, DBodyC P w K T mg base k N x st f (.ref c) t)
    (read : ∀ ds M Q E, sp ds M Q E → ds.length = ps.length ∧ t E { nx := fun _ M' => Q .non M', rt := Q } (dstart N ds) M) : Cal P w K T mg base (k + 1) x [] sp := by
  obtain ⟨f, oc, od, kV, doc, pm, an, ct, osl, lk, hcd, kp, m, b⟩ := h
  exact ⟨f, _, ps, [], [], dgnL lk hcd S (body f) read, m, kp, b, .nil, fun F => .nil⟩
end
end DL

set_option maxHeartbeats 4000000
/-! DL16: a tuple, some times. -/
namespace DL
open PySem PySem.Spec L2
open PyProof.Rows hiding St
def rRepTD : RD2 := fun x y M Q => ∃ xs n, x = .tup xs ∧ y = .int n ∧ xs ≠ [] ∧ xs.length ≤ 1000 ∧ 2 ≤ n ∧ n ≤ 1000 ∧ Q (.tup (List.replicate n.toNat xs).flatten) M
section
variable {X : Cx} {Y : KJ X.K}
theorem od_repT : OpD X Y (binaryOp .Mult) rRepTD := by
  intro pins s σ H x y v u Q0 I rx ry ⟨F, M, d, e, Q, r1, r2, rl, ⟨xs, n, e1, e2, h1, h2, h3, h4, q⟩, k⟩
  subst e1 e2
  cases r2
  cases r1 with
  | tup sq ra =>
    refine op_repT pins s σ H _ _ v u Q0 I rx ry ⟨_, n, _, rfl, rfl, Same.tseq rl.sub sq, ?_, h3, h4, by rw [ra.length]; exact h2, fun p hp => newT_ok rl (ra.rep _) q k p hp⟩
    intro z
    subst z
    cases ra
    exact h1 rfl
end
end DL

set_option maxHeartbeats 4000000
/-! DX7: objects with fields: o.f, o.f = e, C(..), o.m(..); texts' replace. -/
namespace DL
open PySem PySem.Spec L2
open PyProof.Rows hiding St

section
variable {X : Cx} {Y : KJ X.K} {pos pos' apos p : Pos} {o e : Expr} {es : List Expr} {t to tv : DTE} {ta : DTA} {x f m : Str}
/-- the field f of an instance of the class that stands under x -/
structure Fld (K : PySem.W.Frag) (x f : Str) : Prop where
  ex : ∃ C, PySem.W.nsIn K mainGlobals x = some (some (.ref C)) ∧ L2.Cls K C ∧ NoAttr K C f
def dFld (x f : Str) (t : DTE) : DTE := fun ρ M Q => t ρ M fun d M1 => ∃ a fs v, d = .ref a ∧ M1 a = some (.obj x fs) ∧ fs.lookup f = some v ∧ Q v M1
theorem de_fld (W : Fld X.K x f) (he : DE X Y e t) (hb : attributeBase e f X.env (eval e X.env) = eval e X.env := by rfl) : DE X Y (.Attribute e f pos) (dFld x f t) := by
  obtain ⟨C, n, c, na⟩ := W.ex
  refine PE.weak (pe_fld he hb) ?_
  rintro σ H Q0 ⟨F, M, ρ, Q, rs, rl, q, k⟩
  refine ⟨F, M, ρ, _, rs, rl, q, fun v d F1 M1 H1 s1 rp1 ⟨a, fs, y, e1, hm, hl, q1⟩ => ?_⟩
  subst e1
  cases rp1
  obtain ⟨C', dx, vs, h1, n', rf⟩ := s1.rel.obj hm
  cases n.symm.trans n'
  obtain ⟨u, hu, ru⟩ := rf.look hl
  exact ⟨a, C, dx, vs, u, rfl, h1, c, na, hu, k _ _ F1 M1 H1 s1 ru q1⟩
def dSetF (x f : Str) (to tv : DTE) : DTS := fun D ρ M => tv ρ M fun y M1 => to ρ M1 fun o M2 => ∃ a fs, o = .ref a ∧ M2 a = some (.obj x fs) ∧ fs.length < 1000 ∧ D.nx ρ (mu M2 a (.obj x (putD f y fs)))
theorem ds_setF {value : Expr} (W : Fld X.K x f) (ho : DE X Y o to) (hv : DE X Y value tv) (hs : swapsWith value (some (.Attribute o f pos')) pos.line X.env = pure false := by rfl) : DS X Y (.Assign [.Attribute o f pos'] value pos) (dSetF x f to tv) := by
  obtain ⟨C, n, c, na⟩ := W.ex
  refine PS.weak (ps_fld ho hv hs) ?_
  rintro D0 σ H ⟨F, M, ρ, D, rs, rl, q, k⟩
  refine ⟨F, M, ρ, _, rs, rl, q, fun y d F1 M1 H1 s1 r1 q1 => ⟨F1, M1, ρ, _, rs.mono s1.same, s1.rel, q1, fun o od F2 M2 H2 s2 r2 ⟨a, fs, e, hm, hl, q2⟩ => ?_⟩⟩
  subst e
  cases r2
  obtain ⟨C', dx, vs, h1, n', rf⟩ := s2.rel.obj hm
  cases n.symm.trans n'
  have s3 := s2.rel.setO hm h1 n (rf.put (f := f) (r1.mono s2.same))
  exact ⟨a, C, dx, vs, rfl, h1, c, na, by rw [rf.length]; exact hl, k.nx σ ρ F2 _ _ ((s1.trans s2).trans s3) (rs.mono (s1.same.trans s2.same)) q2⟩
end
/-! ### methods -/
section
variable {X : Cx} {CX : CXT} {k : Nat} {C f : Addr} {m : Str} {fd : FuncData} {ps : List Str} {sp : Sp} {dvs : List V} {ds : List Value} {E : XK} {x : Str} {p pos apos : Pos} {o e : Expr} {es : List Expr} {ta : TE} {t : TA}
theorem pe_gmeth {pl : Sem Bool} (he : PE X o ta) (c : L2.Cls X.K C) (hm : Meth X.K C m f) (G : GnOk X.prog X.w X.K X.mg X.base CX k f fd ps sp) (room : Room k X.A) (gu : X.A.guards = some []) (bi : Binds X.K fd ps ds) (dv : Vals dvs ds) (out : Passes CX X E) (ha : PA X (e :: es) t)
    (hst : starEach (e :: es) X.env = (false, eval e X.env) :: starEach es X.env := by rfl) (hpl : (backTo pos (starEach es X.env)).any (·.1) = false := by rfl)
    (ht : eval (.Call (.Attribute o m apos) (e :: es) [] pos) X.env = (do
      let ov ← eval o X.env
      standAt apos.atName
      let (f, first) ← holding [ov] (getMethod ov m pl)
      callWith pos f first (backTo pos (starEach (e :: es) X.env)) (backToKw pos (keywordEach [] X.env))) := by rfl) :
    PE X (.Call (.Attribute o m apos) (e :: es) [] pos) (tMeth C m sp dvs E ta t) := by
  refine ⟨fun pins s σ H Q I h => ?_⟩
  refine PySem.W.methodCall_KW (pl := pl) (thn (he.run pins s σ H _ I h) fun u s1 ⟨x, H1, I1, rx, a, dx, fs, ex, ea, l, q⟩ => ?_) ht
  subst ex
  obtain rfl : u = Value.ref a := rx
  refine getmeth_ok I1 ea c hm l ?_
  refine PySem.W.callWith_K (first := [.ref a]) (h₀ := X.base) I.ok.mod.kin hm.kp (thn (ha.run pos pins s1 σ H1 _ I1 q) fun us s2 ⟨vs, H2, I2, r, q2⟩ => ⟨I2.kIn, ?_⟩) hst hpl
  exact run_gn (us := .ref a :: us) (vs := .ref a :: vs) G room gu bi dv out I2 (.cons rfl r) q2
theorem pe_gmeth0 {pl : Sem Bool} (he : PE X o ta) (c : L2.Cls X.K C) (hm : Meth X.K C m f) (G : GnOk X.prog X.w X.K X.mg X.base CX k f fd ps sp) (room : Room k X.A) (gu : X.A.guards = some []) (bi : Binds X.K fd ps ds) (dv : Vals dvs ds) (out : Passes CX X E)
    (ht : eval (.Call (.Attribute o m apos) [] [] pos) X.env = (do
      let ov ← eval o X.env
      standAt apos.atName
      let (f, first) ← holding [ov] (getMethod ov m pl)
      callWith pos f first (backTo pos (starEach [] X.env)) (backToKw pos (keywordEach [] X.env))) := by rfl) :
    PE X (.Call (.Attribute o m apos) [] [] pos) (tMeth C m sp dvs E ta tNil) := by
  refine ⟨fun pins s σ H Q I h => ?_⟩
  refine PySem.W.methodCall_KW (pl := pl) (thn (he.run pins s σ H _ I h) fun u s1 ⟨x, H1, I1, rx, a, dx, fs, ex, ea, l, q⟩ => ?_) ht
  subst ex
  obtain rfl : u = Value.ref a := rx
  refine getmeth_ok I1 ea c hm l ?_
  exact PySem.W.callWith_K0 (first := [.ref a]) I1.kIn hm.kp (run_gn (us := [.ref a]) (vs := [.ref a]) G room gu bi dv out I1 (.cons rfl .nil) q)
theorem run_gmake {pins : List (Addr × Obj)} {σ : St} {H : Hp} {s : Shared} {Q : VK} {us : List Value} {vs : List V} (M : Mk X.K C f) (G : GnOk X.prog X.w X.K X.mg X.base CX k f fd ps sp) (hr : Room (k + 1) X.A) (gu : X.A.guards = some []) (hb : Binds X.K fd ps ds) (hd : Vals dvs ds)
    (hx : Passes CX X E) (I : Inv X pins σ H s) (r : Vals vs us)
    (h : ∀ x dx, H x = none → H dx = none → dx ≠ x → sp (.ref x :: (vs ++ dvs)) (upd (upd H dx (.own x)) x (.ins C dx [])) (fun v H2 => v = .non ∧ Q (.ref x) H2) E) :
    wpAny (model X.prog X.w) X.A (call (.ref C) us) (EP X pins σ Q) X.xe s := by
  have hq := h (s.heap.objs.size + 1) s.heap.objs.size (I.hok.fresh (Nat.le_succ _)) (I.hok.fresh (Nat.le_refl _)) (Nat.ne_of_lt (Nat.lt_succ_self _))
  have I2 := Inv.made (C := C) I
  have r2 : Vals (V.ref (s.heap.objs.size + 1) :: (vs ++ dvs)) (Value.ref (s.heap.objs.size + 1) :: (us ++ ds)) := .cons rfl (r.append hd)
  have hl : (Value.ref (s.heap.objs.size + 1) :: us ++ ds).length = ps.length := by
    have e := r2.length
    rw [G.many hq] at e
    exact e.symm
  refine wpAny_call (make_map (f := f) I.kIn M.makes M.init (beq_iff_eq.mp M.fn) (codeAny_mono (G.go (args := ⟨Value.ref (s.heap.objs.size + 1) :: us, []⟩) (us := Value.ref (s.heap.objs.size + 1) :: (us ++ ds)) (hr.make C us []) gu
    (I2.env0.make C us []) (hb _ (Value.ref (s.heap.objs.size + 1) :: us) I2.kIn hl) r2 hq) fun r s' hq' => ?_))
  cases r with
  | error e => exact hx pins σ _ _ e s' I2 hq'
  | ok fl =>
    cases fl with
    | ret u =>
      obtain ⟨v, H', I3, rv, ev, q3⟩ := I2.after hq'
      subst ev
      exact ⟨rv, ⟨V.ref (s.heap.objs.size + 1), H', I3, rfl, q3⟩⟩
    | next => exact False.elim hq'
    | brk => exact False.elim hq'
    | cont => exact False.elim hq'
theorem pe_gmake (M : Mk X.K C f) (G : GnOk X.prog X.w X.K X.mg X.base CX k f fd ps sp) (hr : Room (k + 1) X.A) (gu : X.A.guards = some []) (hg : Gl X x) (hm : X.mg x = some (.ref C)) (hb : Binds X.K fd ps ds) (hd : Vals dvs ds) (hx : Passes CX X E)
    (ha : PA X (e :: es) t) (hdb : (x == ("__debug__" : Str)) = false := by decide) (he : starEach (e :: es) X.env = (false, eval e X.env) :: starEach es X.env := by rfl) (hpl : (backTo pos (starEach es X.env)).any (·.1) = false := by rfl) :
    PE X (.Call (.Name x p) (e :: es) [] pos) (tMake C sp dvs E t) := by
  refine ⟨fun pins s σ H Q I h => ?_⟩
  refine wpAny_Call_Name_kw (ld_glob I hg hm ?_ hdb)
  refine PySem.W.callWith_K (h₀ := X.base) I.ok.mod.kin M.kp (thn (ha.run pos pins s σ H _ I h) fun us s1 ⟨vs, H1, I1, r, q⟩ => ⟨I1.kIn, ?_⟩) he hpl
  exact run_gmake M G hr gu hb hd hx I1 r q
end
/-- a method m of the class that stands under x, by its promise over data -/
structure CalM (P : Program) (w : World) (K : PySem.W.Frag) (T : TT8) (mg : Str → Option Value) (base : Heap) (k : Nat) (x m : Str) (sp : DS1) : Prop where
  ex : ∃ (C f : Addr) (fd : FuncData) (ps : List Str), PySem.W.nsIn K mainGlobals x = some (some (.ref C)) ∧ L2.Cls K C ∧ Meth K C m f ∧ GnOk P w K mg base (L2.CX P w) k f fd ps (lift K T (quiet sp)) ∧ Binds K fd ps []
theorem CalM.mono {P : Program} {w : World} {K : PySem.W.Frag} {T : TT8} {mg : Str → Option Value} {base : Heap} {j k : Nat} {x m : Str} {sp : DS1} (C : CalM P w K T mg base j x m sp) (h : j ≤ k) : CalM P w K T mg base k x m sp := by
  obtain ⟨c, f, fd, ps, a, b, d, G, r⟩ := C.ex
  exact ⟨c, f, fd, ps, a, b, d, G.up h, r⟩
theorem CalM.on {P : Program} {w : World} {K : PySem.W.Frag} {T T' : TT8} {mg : Str → Option Value} {base : Heap} {k : Nat} {x m : Str} {sp : DS1} (C : CalM P w K T mg base k x m sp) (h : T' = T) : CalM P w K T' mg base k x m sp := h ▸ C
/-- the class that stands under x is made by its __init__ -/
structure CalC (P : Program) (w : World) (K : PySem.W.Frag) (T : TT8) (mg : Str → Option Value) (base : Heap) (k : Nat) (x : Str) (sp : DS1) : Prop where
  ex : ∃ (C f : Addr) (fd : FuncData) (ps : List Str), mg x = some (.ref C) ∧ PySem.W.nsIn K mainGlobals x = some (some (.ref C)) ∧ Mk K C f ∧ GnOk P w K mg base (L2.CX P w) k f fd ps (lift K T (quiet sp)) ∧ Binds K fd ps []
theorem CalC.mono {P : Program} {w : World} {K : PySem.W.Frag} {T : TT8} {mg : Str → Option Value} {base : Heap} {j k : Nat} {x : Str} {sp : DS1} (C : CalC P w K T mg base j x sp) (h : j ≤ k) : CalC P w K T mg base k x sp := by
  obtain ⟨c, f, fd, ps, a, b, d, G, r⟩ := C.ex
  exact ⟨c, f, fd, ps, a, b, d, G.up h, r⟩
theorem CalC.on {P : Program} {w : World} {K : PySem.W.Frag} {T T' : TT8} {mg : Str → Option Value} {base : Heap} {k : Nat} {x : Str} {sp : DS1} (C : CalC P w K T mg base k x sp) (h : T' = T) : CalC P w K T' mg base k x sp := h ▸ C
section
variable {X : Cx} {Y : KJ X.K} {pos apos p : Pos} {o e : Expr} {es : List Expr} {to : DTE} {ta : DTA} {x m : Str} {k : Nat} {sp : DS1}
def dMeth (x m : Str) (sp : DS1) (to : DTE) (ta : DTA) : DTE := fun ρ M Q => to ρ M fun d M1 => ∃ a fs, d = .ref a ∧ M1 a = some (.obj x fs) ∧ fs.lookup m = none ∧ ta ρ M1 fun ds M2 => sp (d :: ds) M2 Q
theorem can_meth {C : Addr} {σ : St} {H : Hp} {Q0 : VK} (tb : XT Y) (n : PySem.W.nsIn X.K mainGlobals x = some (some (.ref C))) (h : canE Y (dMeth x m sp to ta) σ H Q0) :
    tMeth C m (lift X.K Y.T (quiet sp)) [] (xw Y fun _ _ _ => False) (canE Y to) (canA Y ta) σ H Q0 := by
  obtain ⟨F, M, ρ, Q, rs, rl, q, k⟩ := h
  refine ⟨F, M, ρ, _, rs, rl, q, fun v d F1 M1 H1 s1 rp1 ⟨a, fs, e1, hm, hl, q1⟩ => ?_⟩
  subst e1
  cases rp1
  obtain ⟨C', dx, vs, h1, n', rf⟩ := s1.rel.obj hm
  cases n.symm.trans n'
  refine ⟨a, dx, vs, rfl, h1, rf.look0 hl, F1, M1, ρ, _, rs.mono s1.same, s1.rel, q1, fun ws ds F2 M2 H2 s2 rp2 q2 => ?_⟩
  show lift X.K Y.T (quiet sp) (V.ref a :: (ws ++ [])) H2 Q0 (xw Y fun _ _ _ => False)
  rw [List.append_nil]
  exact ⟨.ref a :: ds, F2, M2, Q, fun _ _ _ => False, .cons (.ref a) rp2, s2.rel.r, tb.tabs _ _ _ s2.rel.j, q2, fun v d F3 M3 H3 s3 => k v d F3 M3 H3 ((s1.trans s2).trans (Stp.of s2.rel s3)), fun _ _ _ _ _ _ _ _ _ z => z.elim⟩
theorem de_meth {pl : Sem Bool} (W : CalM X.prog X.w X.K Y.T X.mg X.base k x m sp) (hr : Room k X.A) (gu : X.A.guards = some []) (g : XT Y) (ho : DE X Y o to) (ha : DA X Y (e :: es) ta)
    (hst : starEach (e :: es) X.env = (false, eval e X.env) :: starEach es X.env := by rfl) (hpl : (backTo pos (starEach es X.env)).any (·.1) = false := by rfl)
    (ht : eval (.Call (.Attribute o m apos) (e :: es) [] pos) X.env = (do
      let ov ← eval o X.env
      standAt apos.atName
      let (f, first) ← holding [ov] (getMethod ov m pl)
      callWith pos f first (backTo pos (starEach (e :: es) X.env)) (backToKw pos (keywordEach [] X.env))) := by rfl) :
    DE X Y (.Call (.Attribute o m apos) (e :: es) [] pos) (dMeth x m sp to ta) := by
  obtain ⟨C, f, fd, ps, n, c, me, G, b⟩ := W.ex
  exact PE.weak (pe_gmeth (pl := pl) ho c me G hr gu b .nil g.none.out ha hst hpl ht) fun σ H Q0 q => can_meth g n q
theorem de_meth0 {pl : Sem Bool} (W : CalM X.prog X.w X.K Y.T X.mg X.base k x m sp) (hr : Room k X.A) (gu : X.A.guards = some []) (g : XT Y) (ho : DE X Y o to)
    (ht : eval (.Call (.Attribute o m apos) [] [] pos) X.env = (do
      let ov ← eval o X.env
      standAt apos.atName
      let (f, first) ← holding [ov] (getMethod ov m pl)
      callWith pos f first (backTo pos (starEach [] X.env)) (backToKw pos (keywordEach [] X.env))) := by rfl) :
    DE X Y (.Call (.Attribute o m apos) [] [] pos) (dMeth x m sp to dNil) := by
  obtain ⟨C, f, fd, ps, n, c, me, G, b⟩ := W.ex
  refine PE.weak (pe_gmeth0 (pl := pl) ho c me G hr gu b .nil g.none.out ht) fun σ H Q0 q => ?_
  obtain ⟨F, M, ρ, Q, rs, rl, q, k⟩ := q
  refine ⟨F, M, ρ, _, rs, rl, q, fun v d F1 M1 H1 s1 rp1 ⟨a, fs, e1, hm, hl, q1⟩ => ?_⟩
  subst e1
  cases rp1
  obtain ⟨C', dx, vs, h1, n', rf⟩ := s1.rel.obj hm
  cases n.symm.trans n'
  exact ⟨a, dx, vs, rfl, h1, rf.look0 hl, [.ref a], F1, M1, Q, fun _ _ _ => False, .cons (.ref a) .nil, s1.rel.r, g.tabs _ _ _ s1.rel.j, q1, fun v d F3 M3 H3 s3 => k v d F3 M3 H3 (s1.trans (Stp.of s1.rel s3)), fun _ _ _ _ _ _ _ _ _ z => z.elim⟩
def dMake (x : Str) (sp : DS1) (ta : DTA) : DTE := fun ρ M Q => ta ρ M fun ds M1 => ∀ a, M1 a = none → sp (.ref a :: ds) (mu M1 a (.obj x [])) fun v M2 => v = .non ∧ Q (.ref a) M2
theorem de_make (W : CalC X.prog X.w X.K Y.T X.mg X.base k x sp) (hr : Room (k + 1) X.A) (gu : X.A.guards = some []) (g : XT Y) (ha : DA X Y (e :: es) ta) (hg : Gl X x := by rfl)
    (hd : (x == ("__debug__" : Str)) = false := by decide) (he : starEach (e :: es) X.env = (false, eval e X.env) :: starEach es X.env := by rfl) (hpl : (backTo pos (starEach es X.env)).any (·.1) = false := by rfl) :
    DE X Y (.Call (.Name x p) (e :: es) [] pos) (dMake x sp ta) := by
  obtain ⟨C, f, fd, ps, m, n, mk, G, b⟩ := W.ex
  refine PE.weak (pe_gmake mk G hr gu hg m b .nil g.none.out ha hd he hpl) ?_
  rintro σ H Q0 ⟨F, M, ρ, Q, rs, rl, q, k⟩
  refine ⟨F, M, ρ, _, rs, rl, q, fun vs ds F1 M1 H1 s1 rp q1 a dx ha hdx ne => ?_⟩
  rw [List.append_nil]
  have s2 := s1.rel.newF hdx (.own a)
  have ha2 : upd H1 dx (.own a) a = none := by rw [upd_ne (Ne.symm ne)]; exact ha
  have s3 := s2.rel.newM ha2 (o := .ins C dx []) (m := .obj x []) ⟨n, .nil⟩
  refine ⟨.ref a :: ds, _, _, _, fun _ _ _ => False, .cons (.ref a) (rp.mono s2.same), s3.rel.r, g.tabs _ _ _ s3.rel.j, q1 a (s1.rel.mnone ha), fun v d F' M' H' s r ⟨e1, q'⟩ => ?_, fun _ _ _ _ _ _ _ _ _ z => z.elim⟩
  subst e1
  cases r
  exact ⟨rfl, k (.ref a) (.ref a) F' M' H' (((s1.trans s2).trans s3).trans (Stp.of s3.rel s)) (.ref a) q'⟩
end
/-! ### a class's defs as they stand behind the top -/
/-- the method m (its full name qual) of the class under x -/
structure HasM (K : PySem.W.Frag) (x m qual : Str) (st : Stmt) (ps : List Str) : Prop where
  ex : ∃ (C f : Addr) (oc : Value) (od : Option Addr) (kV doc pm : Value) (an : Option Addr) (cdv ct : Value) (osl : Array (Option Value)), PySem.W.nsIn K mainGlobals x = some (some (.ref C)) ∧ L2.Cls K C ∧ Meth K C m f ∧
    K.lookup f = some ⟨oc, od, .func (PySem.W.fnOf m qual (defArgs st) (defBody st) (defScope st) .none kV doc pm an cdv ct), osl⟩ ∧ PySem.W.codeIn K cdv qual = true ∧
      Binds K (PySem.W.fnOf m qual (defArgs st) (defBody st) (defScope st) .none kV doc pm an cdv ct) ps []
theorem dcalM {P : Program} {w : World} {K : PySem.W.Frag} {T : TT8} {mg : Str → Option Value} {base : Heap} {x m qual : Str} {st : Stmt} {N ps : List Str} {k : Nat} {sp : DS1} (h : HasM K x m qual st ps) (S : FnScope N ps (defScope st)) {t : DTS}
    (body : ∀ f, DBody P w K T mg base k N qual st f fun _ => t) (read : ∀ ds M Q, sp ds M Q → ds.length = ps.length ∧ t { nx := fun _ M' => Q .non M', rt := Q } (dstart N ds) M) : CalM P w K T mg base (k + 1) x m sp := by
  obtain ⟨C, f, oc, od, kV, doc, pm, an, cdv, ct, osl, n, c, me, lk, hcd, b⟩ := h.ex
  exact ⟨C, f, _, ps, n, c, me, dgn lk hcd S (body f) fun ds M Q E => read ds M Q, b⟩
/-- the __init__ of the class under x -/
structure HasC (K : PySem.W.Frag) (mg : Str → Option Value) (x qual : Str) (st : Stmt) (ps : List Str) : Prop where
  ex : ∃ (C f : Addr) (oc : Value) (od : Option Addr) (kV doc pm : Value) (an : Option Addr) (cdv ct : Value) (osl : Array (Option Value)), mg x = some (.ref C) ∧ PySem.W.nsIn K mainGlobals x = some (some (.ref C)) ∧ Mk K C f ∧
    K.lookup f = some ⟨oc, od, .func (PySem.W.fnOf "__init__" qual (defArgs st) (defBody st) (defScope st) .none kV doc pm an cdv ct), osl⟩ ∧ PySem.W.codeIn K cdv qual = true ∧
      Binds K (PySem.W.fnOf "__init__" qual (defArgs st) (defBody st) (defScope st) .none kV doc pm an cdv ct) ps []
theorem dcalC {P : Program} {w : World} {K : PySem.W.Frag} {T : TT8} {mg : Str → Option Value} {base : Heap} {x qual : Str} {st : Stmt} {N ps : List Str} {k : Nat} {sp : DS1} (h : HasC K mg x qual st ps) (S : FnScope N ps (defScope st)) {t : DTS}
    (body : ∀ f, DBody P w K T mg base k N qual st f fun _ => t) (read : ∀ ds M Q, sp ds M Q → ds.length = ps.length ∧ t { nx := fun _ M' => Q .non M', rt := Q } (dstart N ds) M) : CalC P w K T mg base (k + 1) x sp := by
  obtain ⟨C, f, oc, od, kV, doc, pm, an, cdv, ct, osl, m, n, mk, lk, hcd, b⟩ := h.ex
  exact ⟨C, f, _, ps, m, n, mk, dgn lk hcd S (body f) fun ds M Q E => read ds M Q, b⟩

/-! ### replace -/
/-- a text of the module's, its token known to be one -/
def GlobT (mg : Str → Option Value) (x : Str) (y : Str) (t : Tok) : Prop := mg x = some (.str y t)
section
variable {X : Cx} {Y : KJ X.K} {pos apos p p1 p2 c c0 c1 q0 : Pos} {o a : Expr} {to ta : DTE} {g1 g2 y z : Str} {u v : Tok} {i : Int} {j j0 j1 : Nat}
def tRepG (y z : Str) (to : TE) : TE := fun σ H Q => to σ H fun v H1 => ∃ x, v = .str x ∧ x.length + (x.length + 1) * z.length ≤ 16777216 ∧ Q (.str (Txt.replace x y z)) H1
theorem pe_repG {to : TE} (ho : PE X o to) (m1 : X.mg g1 = some (.str y u)) (m2 : X.mg g2 = some (.str z v)) (hu : u ≠ 0) (hv : v ≠ 0) (huv : u ≠ v) (hyz : (y == z) = false) (l1 : Gl X g1) (l2 : Gl X g2)
    (hd1 : (g1 == ("__debug__" : Str)) = false := by decide) (hd2 : (g2 == ("__debug__" : Str)) = false := by decide)
    (hst : starEach [.Name g1 p1, .Name g2 p2] X.env = [(false, eval (.Name g1 p1) X.env), (false, eval (.Name g2 p2) X.env)] := by rfl)
    (hbase : attributeBase o "replace" X.env (eval o X.env) = eval o X.env := by rfl) (hline : (apos.endLine == pos.line) = true := by rfl) :
    PE X (.Call (.Attribute o "replace" apos) [.Name g1 p1, .Name g2 p2] [] pos) (tRepG y z to) := by
  refine ⟨fun pins s σ H Q I h => ?_⟩
  refine PySem.Call_method2 hbase hst hline (thn (ho.run pins s σ H _ I h) fun uu s1 ⟨xv, H1, I1, rx, x, ex, hb, q⟩ => ?_)
  subst ex
  obtain ⟨tx, rfl⟩ := rx
  refine ⟨"str", _, F.plainAttrs_str, F.slot_str_replace, F.type_str_replace, typeIs_str _ _ _, (fun _ e => nomatch e), Calls.callWith_builtin rfl (Calls.evalArgs_plain (Calls.spliced_cons ?_))⟩
  refine ld_glob I1 l1 m1 ?_ hd1
  refine Calls.spliced_cons (ld_glob I1 l2 m2 ?_ hd2)
  refine Calls.spliced_nil ?_
  exact PySem.SC.replace hu hv huv hyz hb fun t' k => ⟨.str (Txt.replace x y z), H1, I1.tok k, ⟨t', rfl⟩, q⟩
theorem pe_repC {r : R2} {ta : TE} (hr : IxR X r) (ha : PE X a ta) (hyz : (y == z) = false) (hs : PlainIx (.Constant (.int i) j c) := by intro _ _; rfl)
    (hst : starEach [.Constant (.str y) j0 c0, .Constant (.str z) j1 c1] X.env = [(false, eval (.Constant (.str y) j0 c0) X.env), (false, eval (.Constant (.str z) j1 c1) X.env)] := by rfl)
    (hbase : attributeBase (.Subscript a (.Constant (.int i) j c) q0) "replace" X.env (eval (.Subscript a (.Constant (.int i) j c) q0) X.env) = eval (.Subscript a (.Constant (.int i) j c) q0) X.env := by rfl) (hline : (apos.endLine == pos.line) = true := by rfl) :
    PE X (.Call (.Attribute (.Subscript a (.Constant (.int i) j c) q0) "replace" apos) [.Constant (.str y) j0 c0, .Constant (.str z) j1 c1] [] pos) (tRepG y z (tOp r ta (tC (.int i)))) := by
  refine ⟨fun pins s σ H Q I h => ?_⟩
  refine PySem.Call_method2 hbase hst hline (Subscript_ (thn (ha.run pins s σ H _ I h) fun uu s1 ⟨xv, H1, I1, rx, q1⟩ => wpAny_Constant_int ?_))
  refine wpAny_mono (PySem.wpAny_toks (hr a _ pins { s1 with toks := s1.toks + 1 } σ H1 xv (.int i) uu (.int i s1.toks) _ (I1.tok _) rx ⟨_, rfl⟩ q1 (hs _ _))) (fun vv s2 q => ?_) fun _ _ z => z.2
  obtain ⟨hk, xv2, H2, I2, r2, x, ex, hb, q⟩ := q
  subst ex
  obtain ⟨tx, rfl⟩ := r2
  have hk' : 0 < s2.toks := Nat.lt_of_lt_of_le (Nat.succ_pos s1.toks) hk
  refine ⟨"str", _, F.plainAttrs_str, F.slot_str_replace, F.type_str_replace, typeIs_str _ _ _, (fun _ e => nomatch e), Calls.callWith_builtin rfl (Calls.evalArgs_plain (Calls.spliced_cons (Calls.Constant_str (Calls.spliced_cons (Calls.Constant_str (Calls.spliced_nil ?_))))))⟩
  exact PySem.SC.replace (u := s2.toks) (v := s2.toks + 1) (Nat.ne_of_gt hk') (Nat.succ_ne_zero _) (Nat.ne_of_lt (Nat.lt_succ_self _)) hyz hb fun t' k => ⟨.str (Txt.replace x y z), H2, I2.tok k, ⟨t', rfl⟩, q⟩
end
section
variable {X : Cx} {Y : KJ X.K} {pos apos p1 p2 c c0 c1 q0 : Pos} {o a : Expr} {to ta : DTE} {g1 g2 y z : Str} {i : Int} {j j0 j1 : Nat}
/-- two unlike texts of the module's, each an object of its own -/
def Two (mg : Str → Option Value) (g1 g2 : Str) (y z : Str) : Prop := ∃ u v, mg g1 = some (.str y u) ∧ mg g2 = some (.str z v) ∧ u ≠ 0 ∧ v ≠ 0 ∧ u ≠ v
def dRep (y z : Str) (to : DTE) : DTE := fun ρ M Q => to ρ M fun d M1 => ∃ x, d = .str x ∧ x.length + (x.length + 1) * z.length ≤ 16777216 ∧ Q (.str (Txt.replace x y z)) M1
theorem de_repG (W : Two X.mg g1 g2 y z) (hyz : (y == z) = false) (ho : DE X Y o to) (l1 : Gl X g1 := by rfl) (l2 : Gl X g2 := by rfl)
    (hd1 : (g1 == ("__debug__" : Str)) = false := by decide) (hd2 : (g2 == ("__debug__" : Str)) = false := by decide)
    (hst : starEach [.Name g1 p1, .Name g2 p2] X.env = [(false, eval (.Name g1 p1) X.env), (false, eval (.Name g2 p2) X.env)] := by rfl)
    (hbase : attributeBase o "replace" X.env (eval o X.env) = eval o X.env := by rfl) (hline : (apos.endLine == pos.line) = true := by rfl) :
    DE X Y (.Call (.Attribute o "replace" apos) [.Name g1 p1, .Name g2 p2] [] pos) (dRep y z to) := by
  obtain ⟨u, v, m1, m2, hu, hv, huv⟩ := W
  refine PE.weak (pe_repG ho m1 m2 hu hv huv hyz l1 l2 hd1 hd2 hst hbase hline) ?_
  rintro σ H Q0 ⟨F, M, ρ, Q, rs, rl, q, k⟩
  refine ⟨F, M, ρ, _, rs, rl, q, fun v d F1 M1 H1 s1 rp1 ⟨x, e1, hl, q1⟩ => ?_⟩
  subst e1
  cases rp1
  exact ⟨x, rfl, hl, k _ _ F1 M1 H1 s1 (.str _) q1⟩
theorem can_rep {t : DTE} {σ : St} {H : Hp} {Q0 : VK} (q : canE Y (dRep y z t) σ H Q0) : tRepG y z (canE Y t) σ H Q0 := by
  obtain ⟨F, M, ρ, Q, rs, rl, q, k⟩ := q
  refine ⟨F, M, ρ, _, rs, rl, q, fun v d F1 M1 H1 s1 rp1 ⟨x, e1, hl, q1⟩ => ?_⟩
  subst e1
  cases rp1
  exact ⟨x, rfl, hl, k _ _ F1 M1 H1 s1 (.str _) q1⟩
theorem can_int {σ : St} {H : Hp} {Q0 : VK} (q : canE Y (dC (.int i)) σ H Q0) : Q0 (.int i) H := by
  obtain ⟨F, M, ρ, Q, rs, rl, q, k⟩ := q
  exact k _ _ F M H (Stp.refl rl) (.int i) q
theorem de_repC (ha : DE X Y a ta) (hyz : (y == z) = false) (hs : PlainIx (.Constant (.int i) j c) := by exact fun _ _ => rfl)
    (hst : starEach [.Constant (.str y) j0 c0, .Constant (.str z) j1 c1] X.env = [(false, eval (.Constant (.str y) j0 c0) X.env), (false, eval (.Constant (.str z) j1 c1) X.env)] := by rfl)
    (hbase : attributeBase (.Subscript a (.Constant (.int i) j c) q0) "replace" X.env (eval (.Subscript a (.Constant (.int i) j c) q0) X.env) = eval (.Subscript a (.Constant (.int i) j c) q0) X.env := by rfl) (hline : (apos.endLine == pos.line) = true := by rfl) :
    DE X Y (.Call (.Attribute (.Subscript a (.Constant (.int i) j c) q0) "replace" apos) [.Constant (.str y) j0 c0, .Constant (.str z) j1 c1] [] pos) (dRep y z (dOp rIxD ta (dC (.int i)))) := by
  refine PE.weak (pe_repC (ixd (Y := Y)) ha hyz hs hst hbase hline) ?_
  intro σ H Q0 q
  have q1 := can_op (show canE Y (dOp rIxD ta (dC (.int i))) σ H _ from can_rep q)
  obtain ⟨F, M, ρ, Q, rs, rl, q2, k⟩ := q1
  exact ⟨F, M, ρ, Q, rs, rl, q2, fun v d F' M' H' s r h => can_int (k v d F' M' H' s r h)⟩
end
/-! ### three at once -/
def dPar3 (i j l : Nat) (t : DTA) : DTS := fun D ρ M => t ρ M fun ds M1 => ∃ d e f, ds = [d, e, f] ∧ D.nx (((ρ.set i (some d)).set j (some e)).set l (some f)) M1
theorem ds_par3 {X : Cx} {Y : KJ X.K} {i j l : Nat} {x y z : Str} {a b c : Expr} {t : DTA} {px py pz pt pos : Pos} {kt k2 pt2} (hc : X.calm = true) (hN : X.N.Nodup) (hi : X.N[i]? = some x) (hj : X.N[j]? = some y) (hl : X.N[l]? = some z) (hij : i ≠ j) (hil : i ≠ l) (hjl : j ≠ l)
    (hx : X.env.scope.names.lookup x = some .local) (hy : X.env.scope.names.lookup y = some .local) (hz : X.env.scope.names.lookup z = some .local) (ha : DA X Y [a, b, c] t)
    (hw : swappedStores [.Tuple [.Name x px, .Name y py, .Name z pz] kt pt] (.Tuple [a, b, c] k2 pt2) X.env = pure (some [x, y, z]) := by rfl)
    (hs : swapsWithSole [.Tuple [.Name x px, .Name y py, .Name z pz] kt pt] (.Tuple [a, b, c] k2 pt2) pos.line X.env = pure false := by rfl) :
    DS X Y (.Assign [.Tuple [.Name x px, .Name y py, .Name z pz] kt pt] (.Tuple [a, b, c] k2 pt2) pos) (dPar3 i j l t) := by
  refine PS.weak (ps_par3 hc hN hi hj hl hij hil hjl hx hy hz ha hw hs) ?_
  rintro D0 σ H ⟨F, M, ρ, D, rs, r, q, k⟩
  refine ⟨F, M, ρ, _, rs, r, q, fun vs ds F1 M1 H1 s1 rp ⟨d, e, f, he, q1⟩ => ?_⟩
  subst he
  cases rp with
  | cons r1 rt =>
    cases rt with
    | cons r2 rt2 =>
      cases rt2 with
      | cons r3 rt3 =>
        cases rt3
        exact ⟨_, _, _, rfl, k.nx _ _ F1 M1 H1 s1 ((((rs.mono s1.same).set r1 i).set r2 j).set r3 l) q1⟩
end DL

set_option maxHeartbeats 4000000
/-! DX8a: set(a list of numbers), sorted of a set, of a dict, of a list, any number of numbers. -/
namespace DL
open PySem PySem.Spec L2
open PyProof.Rows hiding St

/-- at most so many are in it -/
def FewI (ns : List Int) : Prop := ∀ ks : List Int, ks.Nodup → (∀ k ∈ ks, k ∈ ns) → ks.length + 1 < scanBound
theorem fewI_short {ns : List Int} (h : ns.length + 1 < scanBound) : FewI ns := by
  have sub : ∀ {ks l : List Int}, ks.Nodup → (∀ k ∈ ks, k ∈ l) → ks.length ≤ l.length := by
    intro ks
    induction ks with
    | nil => intro l _ _; exact Nat.zero_le _
    | cons k ks ih =>
      intro l nd m
      have hk := m k List.mem_cons_self
      have e := List.length_erase_of_mem hk
      have p := List.length_pos_of_mem hk
      have := ih (l := l.erase k) (List.nodup_cons.mp nd).2 fun y hy => (List.mem_erase_of_ne (fun z => by rw [z] at hy; exact (List.nodup_cons.mp nd).1 hy)).mpr (m y (List.mem_cons_of_mem _ hy))
      rw [List.length_cons]
      omega
  intro ks nd m
  have := sub nd m
  omega
theorem setR_few {w : World} {h : Heap} {a : Addr} {f : Int → Bool} {c : Nat} {ns : List Int} (few : FewI ns) (r : SetR w h a f c) (m : ∀ k, f k = true → k ∈ ns) : c + 1 < scanBound := by
  obtain ⟨o, es, ep, t, ho, hex, hd, g, nd, hm, hb, hf, hn, hr, hl⟩ := r
  have := few (es.toList.map keyOf) nd fun k hk => m k ((hm k).mpr hk)
  rw [List.length_map, Array.length_toList, hn] at this
  exact this
section
variable {P : Program} {w : World} {A : Around} {E : Value → Shared → Prop} {s : Shared}
/-- the loop of set(..) over numbers -/
theorem set_turns {J : Addr} {fr wr : List Addr} {G : Array GenState → Array GenState → Prop} {m : Nat} {Pv : Nat → Value → Prop} {St : Nat → Shared → Prop} {R : Result → Shared → Prop}
    (wk : WalksS P w A.in1 J fr wr G m Pv St) (D : Addr) (off : D ∉ fr) (ns : List Int) (few : FewI ns) (len : m = ns.length) (val : ∀ i v, Pv i v → ∃ z t, ns[i]? = some z ∧ v = .int z t) :
    ∀ (r i : Nat) (s : Shared), m - i = r → i ≤ m → St i s → (∃ c, SetR w s.heap D (fun z => decide (z ∈ ns.take i)) c) →
      (∀ s2 c, Moved (D :: wr) G s s2 → c + 1 < scanBound → SetR w s2.heap D (fun z => decide (z ∈ ns)) c → R (.ok (.ret .none)) s2) →
      codeAny (model P w) A (.builtin "set.update.loop" ⟨[.ref D, .ref J], []⟩) R s := by
  have offW : D ∉ wr := fun z => off (wk.sub _ z)
  have more : ∀ b ∈ wr, b ∈ D :: wr := fun b z => List.mem_cons_of_mem _ z
  intro r
  induction r with
  | zero =>
    rintro i s e1 le st ⟨c, rc⟩ out
    obtain rfl : i = m := by omega
    refine codeAny_builtin F.entry_set_update_loop ?_
    rw [Around.under_plainId F.plain_set_update_loop _]
    show wpAny _ A.in1 (pyNext (.ref J) >>= _) _ _ s
    refine wpAny_bind (wk.done s _ _ st fun s2 mv => ?_)
    rw [List.take_of_length_le (Nat.le_of_eq len.symm)] at rc
    exact wpAny_pure (out s2 c (mv.mono more) (setR_few few rc fun z q => of_decide_eq_true q) (rc.at fun o q => mv.heap D o offW q))
  | succ r ih =>
    rintro i s e1 le st ⟨c, rc⟩ out
    have lt : i < m := by omega
    refine codeAny_builtin F.entry_set_update_loop ?_
    rw [Around.under_plainId F.plain_set_update_loop _]
    show wpAny _ A.in1 (pyNext (.ref J) >>= _) _ _ s
    refine wpAny_bind (wk.item i s _ _ lt st fun v s1 pv st1 mv => ?_)
    obtain ⟨z, t, at1, rfl⟩ := val i v pv
    have r1 : SetR w s1.heap D (fun j => decide (j ∈ ns.take i)) c := rc.at fun o q => mv.heap D o offW q
    have room := setR_few few r1 fun k q => List.mem_of_mem_take (of_decide_eq_true q)
    show wpAny _ A.in1 (holding [Value.int z t] (setAdd D (.int z t)) >>= _) _ _ s1
    refine wpAny_bind (wpAny_holding ?_)
    unfold setAdd
    refine wpAny_holding (wpAny_bind ((intKind P w).pyHash (k := z) (intKind_is _ _ _ _) ?_))
    refine setR_add_hashed (s := { s1 with toks := s1.toks + 1 }) r1 room fun h2 but r2 => ?_
    have r3 : SetR w h2 D (fun j => decide (j ∈ ns.take (i + 1))) (if decide (z ∈ ns.take i) = true then c else c + 1) := r2.congr fun j => by
      simp [List.take_add_one, at1, List.mem_append]
    refine wpAny_pure ⟨plainId_quiet F.plain_set_update_loop _, ih (i + 1) _ (by omega) lt (wk.frame _ s1 _ _ st1 (Nat.le_succ _) fun b hb o q => ?_) ⟨_, r3⟩ fun s3 c3 mv3 few3 r4 => ?_⟩
    · rw [but.2 b (fun q : b = D => off (by rw [← q]; exact hb))]
      exact q
    · refine out s3 c3 (Moved.trans wk.gtrans ((mv.mono more).then_heap (Nat.le_succ _) fun b o hb q => ?_) mv3) few3 r4
      rw [but.2 b (fun z : b = D => hb (by rw [z]; exact List.mem_cons_self))]
      exact q
set_option maxHeartbeats 3200000 in
theorem call_setLI {l : Addr} {items : Array Value} (ns : List Int) {Q : Value → Shared → Prop} (hh : A.handled = none) (hl : s.heap.IsList l items) (hit : IntsAre items.toList ns) (hb : FewI ns)
    (k : ∀ (h' : Heap) (tk c : Nat), SetR w h' s.heap.objs.size (fun j => decide (j ∈ ns)) c → c + 1 < scanBound → (∀ b o, s.heap.get? b = some o → h'.get? b = some o) → Q (.ref s.heap.objs.size) { s with heap := h', toks := tk }) :
    wpAny (model P w) A (call (.type "set") [.ref l]) Q E s := by
  have hisz : items.size = ns.length := by
    have q := IntsAre.length hit
    rw [Array.length_toList] at q
    exact q
  obtain ⟨c, tl, hmro⟩ := F.called_set.mro
  have hmade := F.called_set.made
  have hsub := F.called_set.sub
  refine wpAny_call (codeAny_of_tree (wpAny_pure (a := _) ⟨Code.quiet_builtin _ (by decide +kernel), codeAny_builtin F.entry_type_call ?_⟩))
  rw [Around.under_plain (weight_type_call_type "set" [.ref l] []) rfl]
  have h1 := F.called_set.notType
  have h2 := F.called_set.canCreate
  have hct := F.typeCall_set_1 (.ref l)
  repeat (any_goals (first | assumption | wp_step))
  refine codeAny_mono (code_set_led1 (.ref l) (E := E) (Q₁ := fun v s1 => v = .ref s.heap.objs.size ∧ s1 = { s with heap := s.heap.push (sO w) }) ⟨rfl, rfl⟩) fun r s1 hr => ?_
  match r, hr with
  | .error e, hr => exact hr
  | .ok (.ret v), hr =>
    obtain ⟨rfl, rfl⟩ := hr
    have new : (s.heap.push (sO w)).get? s.heap.objs.size = some (sO w) := Heap.get?_push_size _ rfl
    have hT : Shared.TypeIs { s with heap := s.heap.push (sO w) } (.ref s.heap.objs.size) "set" := ⟨_, new, rfl⟩
    have hli := F.called_set.init.lookup
    have hbi := F.called_set.init.bind (.ref s.heap.objs.size)
    repeat (any_goals (first | assumption | wp_step))
    refine codeAny_mono (codeAny_call_builtin (R := wants (fun r s2 => r = .none ∧ ∃ h' tk c, s2 = { s with heap := h', toks := tk } ∧ SetR w h' s.heap.objs.size (fun j => decide (j ∈ ns)) c ∧ c + 1 < scanBound ∧
      (∀ b o, s.heap.get? b = some o → h'.get? b = some o)) E) F.called_set.init.plain F.entry_set_init (check_set_init_1 hT ?_)) fun r2 s2 hr2 => ?_
    · obtain ⟨ol, hol, hcl, nl, hdl⟩ := hl
      obtain ⟨ocls, odict, odata, oslots⟩ := ol
      dsimp only at hcl hdl
      subst hcl hdl
      have hol2 : (s.heap.push (sO w)).get? l = some { cls := .type "list", dict := odict, data := .seq items nl, slots := oslots } := Heap.get?_push_of_some _ hol
      have y1 := F.sub_list_set
      have y2 := F.sub_list_frozenset
      have y3 : (Value.type "list" == Value.type "dict") = false := by decide
      have hl1 : (s.heap.push (sO w)).IsList l items := ⟨_, hol2, rfl, nl, rfl⟩
      unfold Builtin.«set.__init__» noKeywords Builtin.Frozenset.updateFrom
      generalize hPI : pyIter = PI
      wp_walk
      subst hPI
      refine wpAny_pyIter_list hl1 (wpAny_bind (wpAny_runValue ?_))
      have ll : l < s.heap.objs.size := Heap.lt_size hol
      have sz : (s.heap.push (sO w)).objs.size = s.heap.objs.size + 1 := Heap.size_push ..
      have ne1 : l ≠ (s.heap.push (sO w)).objs.size := Nat.ne_of_lt (by rw [sz]; exact Nat.lt_succ_of_lt ll)
      have ne2 : s.heap.objs.size ∉ [(s.heap.push (sO w)).objs.size, l] := by
        simp only [List.mem_cons, List.not_mem_nil, or_false, not_or]
        exact ⟨Nat.ne_of_lt (by rw [sz]; exact Nat.lt_succ_self _), Nat.ne_of_gt ll⟩
      have hval : ∀ (i : Nat) (v : Value), items[i]? = some v → ∃ k t, ns[i]? = some k ∧ v = .int k t := fun i v hv => by
        have hi : i < ns.length := by rw [← hisz]; exact (Array.getElem?_eq_some_iff.mp hv).1
        obtain ⟨t, e⟩ := PyProof.Rows.IntsAre.int_at hit i v (by rw [Array.getElem?_toList]; exact hv)
        refine ⟨ns[i], t, List.getElem?_eq_getElem hi, ?_⟩
        rw [e, List.getD_eq_getElem?_getD, List.getElem?_eq_getElem hi] <;> rfl
      refine set_turns ((Walks.list (by simp [hh]) _ l ne1 items).toS) s.heap.objs.size ne2 ns hb hisz hval (items.size - 0) 0 _ (by omega) (Nat.zero_le _) ⟨⟨_, Heap.get?_push_size _ rfl, rfl, rfl⟩, hl1.push _⟩
        ⟨0, setR_new_at (Heap.get?_push_of_some _ new)⟩ fun s' c' mv hc' T => ?_
      obtain ⟨h', g2, d', tk', os'⟩ := s'
      obtain rfl : g2 = s.gens := mv.gens
      obtain rfl : d' = s.drawn := mv.drawn
      obtain rfl : os' = s.os := mv.os
      show wpAny _ _ _ _ _ _
      refine wpAny_pure ?_
      show wpAny _ _ (ret Value.none) _ _ _
      refine wpAny_pure ⟨rfl, h', tk', c', rfl, T, hc', fun b o e => ?_⟩
      have lb : b < s.heap.objs.size := Heap.lt_size e
      refine mv.heap b o ?_ (Heap.get?_push_of_some _ (Heap.get?_push_of_some _ e))
      simp only [List.mem_cons, List.not_mem_nil, or_false, not_or]
      exact ⟨Nat.ne_of_lt lb, Nat.ne_of_lt (by rw [sz]; exact Nat.lt_succ_of_lt lb)⟩
    · match r2, hr2 with
      | .error e, hr2 => exact hr2
      | .ok (.ret r), hr2 =>
        obtain ⟨rfl, h', tk, c', rfl, T, hc', kp⟩ := hr2
        repeat (any_goals (first | assumption | wp_step))
        exact k _ _ _ T hc' kp
      | .ok .next, hr2 => exact hr2.elim
      | .ok .brk, hr2 => exact hr2.elim
      | .ok .cont, hr2 => exact hr2.elim
  | .ok .next, hr => exact hr.elim
  | .ok .brk, hr => exact hr.elim
  | .ok .cont, hr => exact hr.elim
/-- sorted(a set of numbers), any number of them -/
theorem sorted_setI {a : Addr} {S : Int → Bool} {n : Nat} {Q : Value → Shared → Prop} (R : SetR w s.heap a S n) (hh : A.handled = none) (hz : n ≤ sizeLine)
    (hQ : ∀ s' p (out : Array Value) (c : Nat) (ns : List Int), (∀ b o, s.heap.get? b = some o → s'.heap.get? b = some o) → s'.gens = s.gens → s'.os = s.os → s.heap.objs.size ≤ p →
      s'.heap.get? p = some (seqObj "list" out c) → IntsAre out.toList ns → ns.Pairwise (· < ·) → (∀ k, k ∈ ns ↔ S k = true) → ns.length = n → Q (.ref p) s') :
    wpAny (model P w) A (call (.builtin "sorted") [.ref a]) Q E s := by
  obtain ⟨o, es, ep, t, ho, hex, hd, g, nd, hm, hb, hf, hn, hr, hl⟩ := R
  refine Calls.call_function_entry kind_sorted plain_sorted entry_sorted (args_sorted1 _) ?_
  unfold Builtin.«sorted»
  refine wpAny_bind (m := checkCount "sorted" 1 1 _) (wpAny_pure ?_)
  refine wpAny_bind (collect_set (A := A.in1) hh ⟨o, ho, hex.1, hd⟩ hf hb hr hl fun s1 vs k1 hz1 g1 o1 pm => ?_)
  have hvl : vs.length = n := by rw [pm.length_eq, List.length_map, Array.length_toList]; exact hn
  have hI : IntsAre vs (vs.map Builtin.Re.reRawOf) := ints_of vs fun v hv => by
    obtain ⟨e, he, q⟩ := List.mem_map.mp (pm.mem_iff.mp hv)
    obtain ⟨k, tk, h1, _⟩ := g e he
    exact ⟨k, tk, by rw [← q]; exact h1⟩
  have pk : (vs.map Builtin.Re.reRawOf).Perm (es.toList.map keyOf) := by
    have q := pm.map Builtin.Re.reRawOf
    rw [List.map_map] at q
    exact q
  refine wpAny_bind (wpAny_newList ?_ (by rw [hvl]; exact hz))
  have hoL : (s1.heap.push (seqObj "list" vs.toArray 0)).get? s1.heap.objs.size = some (seqObj "list" vs.toArray 0) := Heap.get?_push_size _ rfl
  refine wpAny_bind (wpAny_holding (wpAny_call_entry slot_list_sort ⟨_, hoL, rfl⟩ entry_list_sort (SrtO.list_sort_ord SrtO.swo_int hoL (by rw [hvl]; exact hz) (fun h2 => SrtO.ints_sortable hI h2) fun out hs hb => ⟨_, rfl, ?_⟩) (args_list_sort _)))
  obtain ⟨a1, a2, a3⟩ := SrtO.ints_out hI hs hb
  obtain ⟨c, hc⟩ := sortedHeap_at (vs := vs) (out := out.toArray) hoL
  have pn : (out.map SrtO.iv).Perm (es.toList.map keyOf) := a2.trans pk
  refine wpAny_pure ⟨_, rfl, hQ _ s1.heap.objs.size out.toArray c (out.map SrtO.iv) (fun b u e => ?_) g1 o1 hz1 hc a1 (lt_of_le_nodup _ a3 (pn.nodup_iff.mpr nd)) (fun k => by rw [pn.mem_iff, ← hm k]) ?_⟩
  · have q := k1 b u e
    have hlt := Heap.lt_size q
    show (sortedHeap (s1.heap.push (seqObj "list" vs.toArray 0)) s1.heap.objs.size vs out.toArray).get? b = some u
    rw [sortedHeap_old (Nat.ne_of_lt hlt) (by rw [size_push']; exact Nat.lt_succ_of_lt hlt)]
    exact Heap.get?_push_of_some _ q
  · rw [pn.length_eq, List.length_map, Array.length_toList]; exact hn
end
section
variable {X : Cx} {Y : KJ X.K}
def rSetI (K : PySem.W.Frag) (w : World) : List V → Hp → VK → Prop := fun vs H Q => ∃ (l : Addr) (ns : List Int), vs = [V.ref l] ∧ SqL K H l (ns.map V.int) ∧ FewI ns ∧
  ∀ p c, H p = none → c + 1 < scanBound → Q (.ref p) (upd H p (SetO w p (fun j => decide (j ∈ ns)) c))
theorem cr_setI (hc : X.calm = true) : CallR X (.type "set") (rSetI X.K X.w) := by
  intro pins s σ H vs us Q I r h
  obtain ⟨l, ns, rfl, hl, hb, q⟩ := h
  obtain ⟨its, rv, pl, _⟩ := I.list hl
  rw [Vals.ref1 r]
  refine call_setLI ns (I.ok.hd hc) pl.isList (by simpa using rv.ints) hb fun h' tk c T hc' keep => ?_
  exact ⟨.ref _, upd H s.heap.objs.size (SetO X.w s.heap.objs.size (fun j => decide (j ∈ ns)) c), I.laid (t' := tk) keep (Nat.le_refl _) (setO_new T), rfl, q _ c (I.hok.fresh (Nat.le_refl _)) hc'⟩
def rSortSI (w : World) : List V → Hp → VK → Prop := fun vs H Q => ∃ (a : Addr) (S : Int → Bool) (n : Nat), vs = [V.ref a] ∧ H a = some (SetO w a S n) ∧ n ≤ sizeLine ∧
  ∀ (ns : List Int) (p : Addr), ns.Pairwise (· < ·) → (∀ k : Int, k ∈ ns ↔ S k = true) → H p = none → Q (.ref p) (upd H p (.lst (ns.map V.int)))
theorem cr_sortSI (hc : X.calm = true) : CallR X (.builtin "sorted") (rSortSI X.w) := by
  intro pins s σ H vs us Q I r h
  obtain ⟨a, S, n, rfl, ha, hz, q⟩ := h
  have R := setO_get I ha
  rw [Vals.ref1 r]
  refine sorted_setI R (I.ok.hd hc) hz fun s' p out c ns k g o hp hg hi hs hm hl => ?_
  have hlen : (ns.map V.int).length ≤ sizeLine := by rw [List.length_map, hl]; exact hz
  have hn : H p = none := I.hok.fresh hp
  have J : Inv X pins σ (upd H p (.lst (ns.map V.int))) { s with heap := s'.heap, gens := s'.gens, drawn := s'.drawn, toks := s'.toks } :=
    I.call (ch := []) (Un.laid k hp hn) (I.hok.laid k hp ⟨hlen, out.toList, c, vals_of_ints hi, hg⟩) (by rw [g]; exact I.bare) (fun _ z => nomatch z)
  have e : s' = { s with heap := s'.heap, gens := s'.gens, drawn := s'.drawn, toks := s'.toks } := by
    cases s'
    cases s
    cases o
    rfl
  rw [e]
  exact ⟨.ref p, _, J, rfl, q ns p hs hm hn⟩
/-- sorted(a dict whose keys are numbers), any number of them -/
theorem cr_sortDI (hcalm : X.calm = true) : CallR X (.builtin "sorted") (fun xs H Q => ∃ (a : Addr) (kvs : List (Key × V)) (ks : List Int), xs = [.ref a] ∧ Rd H a (.dK kvs) ∧ kvs.map (·.1) = ks.map Sum.inl ∧
    ∀ (ys : List Int) (p : Addr), ys.Perm ks → ys.Pairwise (· ≤ ·) → H p = none → Q (.ref p) (upd H p (.lst (ys.map V.int)))) := by
  intro pins s σ H xs us Q I r q
  obtain ⟨a, kvs, ks, ex, hd, hks, q⟩ := q
  subst ex
  obtain ⟨u, eu, rx⟩ := vals1 r
  subst eu
  cases rx
  obtain ⟨z, lo, vs, rel, dd⟩ := dk_rd I.hok hd
  obtain ⟨ep, hat⟩ := dd.dictAt
  have hkeys : vs.map (·.1) = ks.map Sum.inl := rel.keys.symm.trans hks
  have hl : vs.length = ks.length := by
    have e := congrArg List.length hkeys
    rw [List.length_map, List.length_map] at e
    exact e
  have h16 : vs.length ≤ sizeLine := by rw [← rel.length]; exact z
  refine Calls.call_function_entry PyProof.Rows.kind_sorted PyProof.Rows.plain_sorted PyProof.Rows.entry_sorted (PyProof.Rows.args_sorted1 _) ?_
  unfold Builtin.«sorted»
  refine wpAny_bind (m := checkCount "sorted" 1 1 _) (wpAny_pure ?_)
  refine wpAny_bind (PySem.W.kdu_collect (A := X.A.in1) (PySem.W.kdl_dict (knd := mixKind X.prog X.w) (kvs := vs) (ep := ep) lo) (I.ok.hd hcalm) hat h16 fun h' tk acc hk hacc => ?_)
  have hal : acc.toList.length = ks.length := by rw [Array.length_toList, hacc.1, hl]
  have hS : IntsAre acc.toList ks := ints_each hal fun j v e => by
    obtain ⟨k, x, e1, e2⟩ := hacc.2 j v (by rw [← Array.getElem?_toList]; exact e)
    have e3 : (vs.map (·.1))[j]? = some k := by rw [List.getElem?_map, e1]; rfl
    rw [hkeys, List.getElem?_map] at e3
    cases e4 : ks[j]? with
    | none => rw [e4] at e3; cases e3
    | some y =>
      rw [e4] at e3
      have e5 : Sum.inl y = k := Option.some.inj e3
      subst e5
      rcases keyIs_shape (show keyIs (Sum.inl y) v = true from e2) with ⟨i, t, ek, ev⟩ | ⟨z, t, ek, ev⟩
      · cases ek
        exact ⟨y, t, rfl, ev⟩
      · cases ek
  have I1 : Inv X pins σ H { s with heap := h', toks := tk } := I.kept hk
  have hz2 : acc.toList.length ≤ sizeLine := by rw [hal, ← hl]; exact h16
  refine wpAny_bind (wpAny_newList ?_ hz2)
  have hoL : (h'.push (seqObj "list" acc.toList.toArray 0)).get? h'.objs.size = some (seqObj "list" acc.toList.toArray 0) := Heap.get?_push_size _ rfl
  show wpAny _ _ _ _ _ { s with heap := h'.push (seqObj "list" acc.toList.toArray 0), toks := tk }
  refine wpAny_bind (wpAny_holding (wpAny_call_entry PyProof.Rows.slot_list_sort ⟨_, hoL, rfl⟩ PyProof.Rows.entry_list_sort
    (SrtO.list_sort_ord (s := { s with heap := h'.push (seqObj "list" acc.toList.toArray 0), toks := tk }) SrtO.swo_int hoL hz2 (fun h2 => SrtO.ints_sortable hS h2) fun out hs hb => ⟨_, rfl, ?_⟩) (PyProof.Rows.args_list_sort _)))
  obtain ⟨g1, g2, g3⟩ := SrtO.ints_out hS hs hb
  obtain ⟨e', he'⟩ := PyProof.Rows.sortedHeap_at (vs := acc.toList) (out := out.toArray) hoL
  have hlen : ((out.map SrtO.iv).map V.int).length ≤ sizeLine := by
    rw [List.length_map, g2.length_eq, ← hl]
    exact h16
  refine wpAny_pure ⟨_, rfl, .ref h'.objs.size, upd H h'.objs.size (.lst ((out.map SrtO.iv).map V.int)), I1.laid (t' := tk) (fun b u e => ?_) (Nat.le_refl _)
    (show ObjOk X.prog X.w _ _ _ (.lst ((out.map SrtO.iv).map V.int)) from ⟨hlen, out, e', vals_of_ints g1, by simpa using he'⟩), rfl, q _ _ g2 g3 (I1.hok.fresh (Nat.le_refl _))⟩
  have hb : b < h'.objs.size := Heap.lt_size e
  rw [PyProof.Rows.sortedHeap_old (Nat.ne_of_lt hb) (by rw [size_push']; exact Nat.lt_succ_of_lt hb)]
  exact Heap.get?_push_of_some _ e
end
end DL

set_option maxHeartbeats 4000000
/-! DX8b: dicts that change; sorted of them, of sets and lists of numbers; a comprehension; update; get with a default. -/
namespace DL
open PySem PySem.Spec L2
open PyProof.Rows hiding St

/-! ### entries -/
section
variable {κ α : Type} [DecidableEq κ]
def putKD (kvs : List (κ × α)) (k : κ) (v : α) : List (κ × α) :=
  if (kvs.any fun kv => decide (kv.1 = k)) = true then kvs.map (fun kv => if kv.1 = k then (kv.1, v) else kv) else kvs ++ [(k, v)]
def valKD (kvs : List (κ × α)) (k : κ) : Option α := (kvs.find? fun kv => decide (kv.1 = k)).map (·.2)
def mergeKD (kvs more : List (κ × α)) : List (κ × α) := more.foldl (fun acc kv => putKD acc kv.1 kv.2) kvs
theorem putKD_len (kvs : List (κ × α)) (k : κ) (v : α) : (putKD kvs k v).length ≤ kvs.length + 1 := by
  unfold putKD
  split
  · rw [List.length_map]; omega
  · rw [List.length_append]; simp
end
section
variable {K : PySem.W.Frag} {F : Hp}
theorem RpKs.any (k : Int ⊕ Str) : ∀ {vs : List ((Int ⊕ Str) × V)} {ds : List ((Int ⊕ Str) × D)}, RpKs K F vs ds → (vs.any fun kv => decide (kv.1 = k)) = ds.any fun kv => decide (kv.1 = k)
  | _, _, .nil => rfl
  | _, _, .cons _ t => by rw [List.any_cons, List.any_cons, RpKs.any k t]
theorem RpKs.app : ∀ {vs ws : List ((Int ⊕ Str) × V)} {ds es : List ((Int ⊕ Str) × D)}, RpKs K F vs ds → RpKs K F ws es → RpKs K F (vs ++ ws) (ds ++ es)
  | _, _, _, _, .nil, s => s
  | _, _, _, _, .cons h t, s => .cons h (RpKs.app t s)
theorem RpKs.repl {k : Int ⊕ Str} {v : V} {d : DL.D} (r : Rp K F v d) : ∀ {vs : List ((Int ⊕ Str) × V)} {ds : List ((Int ⊕ Str) × DL.D)}, RpKs K F vs ds → RpKs K F (vs.map fun kv => if kv.1 = k then (kv.1, v) else kv) (ds.map fun kv => if kv.1 = k then (kv.1, d) else kv)
  | _, _, .nil => .nil
  | (x, _) :: _, (_, _) :: _, .cons a t => by
    rw [List.map_cons, List.map_cons]
    by_cases e : x = k
    · simp only [e, if_true]; exact .cons r (RpKs.repl r t)
    · simp only [e, if_false]; exact .cons a (RpKs.repl r t)
theorem RpKs.put {k : Int ⊕ Str} {v : V} {d : DL.D} (r : Rp K F v d) {vs : List ((Int ⊕ Str) × V)} {ds : List ((Int ⊕ Str) × DL.D)} (h : RpKs K F vs ds) : RpKs K F (putK vs k v) (putKD ds k d) := by
  unfold putK putKD
  rw [h.any k]
  split
  · exact h.repl r
  · exact h.app (.cons r .nil)
theorem RpKs.merge {more : List ((Int ⊕ Str) × V)} {em : List ((Int ⊕ Str) × DL.D)} (hm : RpKs K F more em) : ∀ {vs : List ((Int ⊕ Str) × V)} {ds : List ((Int ⊕ Str) × DL.D)}, RpKs K F vs ds → RpKs K F (mergeK vs more) (mergeKD ds em) := by
  induction hm with
  | nil => exact fun h => h
  | cons r t ih => exact fun h => ih (h.put r)
theorem RpKs.val (k : Int ⊕ Str) : ∀ {vs : List ((Int ⊕ Str) × V)} {ds : List ((Int ⊕ Str) × DL.D)}, RpKs K F vs ds → (valKD ds k = none ∧ valV vs k = none) ∨ ∃ d v, valKD ds k = some d ∧ valV vs k = some v ∧ Rp K F v d
  | _, _, .nil => .inl ⟨rfl, rfl⟩
  | (x, v) :: vs, (_, d) :: ds, .cons a t => by
    by_cases e : x = k
    · exact .inr ⟨d, v, by unfold valKD; simp [List.find?_cons, e], valV_pos e, a⟩
    · rcases RpKs.val k t with ⟨h1, h2⟩ | ⟨d', v', h1, h2, h3⟩
      · exact .inl ⟨by unfold valKD at h1 ⊢; simpa [List.find?_cons, e] using h1, (valV_neg e).trans h2⟩
      · exact .inr ⟨d', v', by unfold valKD at h1 ⊢; simpa [List.find?_cons, e] using h1, (valV_neg e).trans h2, h3⟩
/-- the key that a value is -/
def keyD : DL.D → Option (Int ⊕ Str)
  | .int i => some (.inl i)
  | .str x => some (.inr x)
  | _ => none
theorem keyD_rp {v : V} {d : DL.D} {k : Int ⊕ Str} (r : Rp K F v d) (h : keyD d = some k) : v = kV k := by
  cases r <;> cases h <;> rfl
/-- entries over values, as keys beside values -/
theorem RpKs.zip : ∀ {vs : List ((Int ⊕ Str) × V)} {ds : List ((Int ⊕ Str) × DL.D)}, RpKs K F vs ds → vs = (ds.map (·.1)).zip (vs.map (·.2)) ∧ (ds.map (·.1)).length = (vs.map (·.2)).length ∧ RpAll K F (vs.map (·.2)) (ds.map (·.2))
  | _, _, .nil => ⟨rfl, rfl, .nil⟩
  | _, _, .cons r t => by
    obtain ⟨h1, h2, h3⟩ := RpKs.zip t
    refine ⟨?_, ?_, .cons r h3⟩
    · rw [List.map_cons, List.map_cons, List.zip_cons_cons, ← h1]
    · rw [List.map_cons, List.map_cons, List.length_cons, List.length_cons, h2]
theorem RpAll.zip : ∀ {ks : List (Int ⊕ Str)} {vs : List V} {ds : List DL.D}, ks.length = vs.length → RpAll K F vs ds → RpKs K F (ks.zip vs) (ks.zip ds)
  | [], [], _, _, .nil => .nil
  | k :: ks, _ :: _, _, h, .cons r t => .cons r (RpAll.zip (by simpa using h) t)
  | [], _ :: _, _, h, _ => by simp at h
  | _ :: _, [], _, h, _ => by simp at h
end
/-! ### a dict that changes -/
def dDictN : DTE := fun _ M Q => ∀ a, M a = none → Q (.ref a) (mu M a (.dic []))
/-- o[k] = v, o such a dict -/
def rSetKD : DTSet := fun o i v M Q => ∃ a kvs k, o = .ref a ∧ keyD i = some k ∧ M a = some (.dic kvs) ∧ kvs.length < sizeLine ∧ Q (mu M a (.dic (putKD kvs k v)))
/-- k in o, k not in o -/
def rInDm (neg : Bool) : RD2 := fun x y M Q => ∃ a kvs k, y = .ref a ∧ keyD x = some k ∧ M a = some (.dic kvs) ∧ Q (.bl (if neg = true then !(valKD kvs k).isSome else (valKD kvs k).isSome)) M
section
variable {X : Cx} {Y : KJ X.K} {pos p apos cpos : Pos} {a b o e : Expr} {t u to te : DTE}
theorem de_dictN : DE X Y (.Dict [] [] pos) dDictN := by
  refine PE.weak pe_dnewK ?_
  rintro σ H Q0 ⟨F, M, ρ, Q, rs, rl, q, k⟩
  intro p hp
  exact k _ _ F _ _ (rl.newM hp (o := .dK []) (m := .dic []) .nil) (.ref p) (q p (rl.mnone hp))
theorem set_dicD {n : Nat} (hr : Room n X.A) : PSet X (canSet Y rSetKD) := by
  have hu := hr.units
  refine PSet.weak (set_dict (by omega)) ?_
  rintro o i v H Q0 ⟨F, M, od, id, vd, Q, r1, r2, r3, rl, ⟨a, kvs, k, e1, e2, hm, hz, q⟩, kk⟩
  subst e1
  cases r1
  obtain ⟨vs, h1, rk⟩ := rl.dic hm
  rw [keyD_rp r2 e2]
  refine ⟨a, _, rfl, DPut.k h1 (by rw [rk.length]; exact hz), ?_⟩
  exact kk F _ _ (rl.setD hm h1 (rk.put r3)) q
theorem can_inM {neg : Bool} {σ : St} {H : Hp} {Q0 : VK} (q : canE Y (dOp (rInDm neg) t u) σ H Q0) : canE Y t σ H fun y H1 => canE Y u σ H1 fun x H2 => ∃ a o, x = .ref a ∧ DGet H2 a y o ∧ Q0 (.bl (if neg = true then !o.isSome else o.isSome)) H2 := by
  obtain ⟨F, M, ρ, Q, rs, rl, q, k⟩ := q
  refine ⟨F, M, ρ, _, rs, rl, q, fun y d F1 M1 H1 s1 rp1 q1 => ?_⟩
  refine ⟨F1, M1, ρ, _, rs.mono s1.same, s1.rel, q1, fun x e F2 M2 H2 s2 rp2 ⟨a, kvs, k0, e1, e2, hm, q2⟩ => ?_⟩
  subst e1
  cases rp2
  obtain ⟨vs, h1, rk⟩ := s2.rel.dic hm
  rw [keyD_rp rp1 e2]
  refine ⟨a, _, rfl, DGet.k h1, ?_⟩
  have k1 := k _ _ F2 M2 H2 (s1.trans s2) (.bl _) q2
  rcases rk.val k0 with ⟨g1, g2⟩ | ⟨d', v', g1, g2, g3⟩
  · rw [g1] at k1; rw [g2]; exact k1
  · rw [g1] at k1; rw [g2]; exact k1
theorem dt_cmpM {n : Nat} (hr : Room n X.A) (ha : DE X Y a t) (hb : DE X Y b u) (hm : behindInMarks .In b = false) : DT X Y (.Compare a [.In] [b] pos) (dB (dOp (rInDm false) t u)) := by
  have hu := hr.units
  refine PT.weak (pt_cmp (pc_din (by omega) ha hb) hm) ?_
  rintro σ H Q0 ⟨F, M, ρ, Q, rs, rl, q, k⟩
  refine can_inM (neg := false) (Q0 := fun x H1 => ∃ c, x = V.bl c ∧ Q0 c H1) ⟨F, M, ρ, _, rs, rl, q, fun v d F1 M1 H1 s1 rp ⟨c, e, q1⟩ => ?_⟩
  subst e
  cases rp
  exact ⟨c, rfl, k c F1 M1 H1 s1 q1⟩
theorem dt_cmpMN {n : Nat} (hr : Room n X.A) (ha : DE X Y a t) (hb : DE X Y b u) (hm : behindInMarks .NotIn b = false) : DT X Y (.Compare a [.NotIn] [b] pos) (dB (dOp (rInDm true) t u)) := by
  have hu := hr.units
  refine PT.weak (pt_cmp (pc_dnotin (by omega) ha hb) hm) ?_
  rintro σ H Q0 ⟨F, M, ρ, Q, rs, rl, q, k⟩
  refine can_inM (neg := true) (Q0 := fun x H1 => ∃ c, x = V.bl c ∧ Q0 c H1) ⟨F, M, ρ, _, rs, rl, q, fun v d F1 M1 H1 s1 rp ⟨c, e, q1⟩ => ?_⟩
  subst e
  cases rp
  exact ⟨c, rfl, k c F1 M1 H1 s1 q1⟩
/-! ### sorted, numbers, any number of them -/
def rSortI (fz : Bool) : RDL := fun ds M Q => ∃ (d : DL.D) (ns : List Int), ds = [d] ∧ lstOf M d = some (ns.map DL.D.int) ∧ ∀ ms : List Int, ms.Perm ns → ms.Pairwise (· ≤ ·) → newL fz (ms.map DL.D.int) M Q
theorem of_intsR {K : PySem.W.Frag} {F : Hp} : ∀ ns : List Int, RpAll K F (ns.map V.int) (ns.map DL.D.int)
  | [] => .nil
  | n :: ns => .cons (.int n) (of_intsR ns)
theorem rp_intsR {K : PySem.W.Frag} {F : Hp} : ∀ {vs : List V} {ns : List Int}, RpAll K F vs (ns.map DL.D.int) → vs = ns.map V.int
  | [], [], .nil => rfl
  | v :: vs, n :: ns, .cons h t => by cases h; rw [rp_intsR t]; rfl
theorem cd_sortI (fz : Bool) : CallD X Y (.builtin "sorted") (rSortI fz) := by
  intro pins s σ H vs us Q0 I r ⟨F, M, ds, Q, rp, rl, ⟨d, ns, e, e1, q⟩, k⟩
  subst e
  obtain ⟨v, rfl, r1⟩ := rp1 rp
  obtain ⟨l, ws, rfl, h1, ra⟩ := lstOf_rp rl r1 e1
  rw [rp_intsR ra] at h1
  exact cr_sortedI pins s σ H _ us Q0 I r ⟨l, ns, rfl, h1, fun ms n pm so hn => newL_ok rl (of_intsR ms) (q ms pm so) k n hn⟩
/-- sorted(a dict), its keys numbers -/
def rSortKD (fz : Bool) : RDL := fun ds M Q => ∃ (a : Addr) (kvs : List ((Int ⊕ Str) × DL.D)) (ns : List Int), ds = [.ref a] ∧ M a = some (.dic kvs) ∧ kvs.map (·.1) = ns.map Sum.inl ∧ ∀ ms : List Int, ms.Perm ns → ms.Pairwise (· ≤ ·) → newL fz (ms.map DL.D.int) M Q
theorem cd_sortKD (fz : Bool) (hc : X.calm = true) : CallD X Y (.builtin "sorted") (rSortKD fz) := by
  intro pins s σ H vs us Q0 I r ⟨F, M, ds, Q, rp, rl, ⟨a, kvs, ns, e, e1, e2, q⟩, k⟩
  subst e
  obtain ⟨v, rfl, r1⟩ := rp1 rp
  cases r1
  obtain ⟨ws, h1, rk⟩ := rl.dic e1
  exact cr_sortDI hc pins s σ H _ us Q0 I r ⟨a, ws, ns, rfl, .inl h1, by rw [rk.keys]; exact e2, fun ms n pm so hn => newL_ok rl (of_intsR ms) (q ms pm so) k n hn⟩
/-- sorted(set(a list of numbers)) -/
def dSortSetI (fz : Bool) (t : DTE) : DTE := fun ρ M Q => t ρ M fun d M1 => ∃ ns : List Int, lstOf M1 d = some (ns.map DL.D.int) ∧ FewI ns ∧ ∀ ms : List Int, ms.Pairwise (· < ·) → (∀ k, k ∈ ms ↔ k ∈ ns) → newL fz (ms.map DL.D.int) M1 Q
theorem de_sortSetI {p1 p2 : Pos} (fz : Bool) (m1 : X.mg "sorted" = none) (m2 : X.mg "set" = none) (he : DE X Y e t) (hc : X.calm = true := by rfl) (g1 : Gl X "sorted" := by rfl) (g2 : Gl X "set" := by rfl)
    (na : starEach [e] X.env = (false, eval e X.env) :: starEach [] X.env := by rfl) (nb : (backTo p2 (starEach [] X.env)).any (·.1) = false := by rfl)
    (na2 : starEach [.Call (.Name "set" p1) [e] [] p2] X.env = (false, eval (.Call (.Name "set" p1) [e] [] p2) X.env) :: starEach [] X.env := by rfl) (nb2 : (backTo pos (starEach [] X.env)).any (·.1) = false := by rfl) :
    DE X Y (.Call (.Name "sorted" p) [.Call (.Name "set" p1) [e] [] p2] [] pos) (dSortSetI fz t) := by
  have b1 : bootBuiltins "sorted" = some (.builtin "sorted") := by decide +kernel
  have b2 : bootBuiltins "set" = some (.type "set") := by decide +kernel
  refine PE.weak (pe_callB (cr_sortSI hc) g1 m1 b1 (pa_cons (pe_callTy (cr_setI hc) g2 m2 b2 (pa_cons he pa_nil na) (by decide) (by decide) na nb) pa_nil na2) (by decide) (by decide) na2 nb2) ?_
  rintro σ H Q0 ⟨F, M, ρ, Q, rs, rl, q, k⟩
  refine ⟨F, M, ρ, _, rs, rl, q, fun v d F1 M1 H1 s1 rp ⟨ns, src, few, q1⟩ => ?_⟩
  obtain ⟨l, vs, rfl, h1, ra⟩ := lstOf_rp s1.rel rp src
  rw [rp_intsR ra] at h1
  refine ⟨l, ns, rfl, h1, few, fun p c hp hc' => ?_⟩
  have s2 := s1.rel.newF hp (SetO X.w p (fun j => decide (j ∈ ns)) c) (fun _ z => nomatch z)
  have hz : c ≤ sizeLine := by
    have e1 : scanBound = 4096 := rfl
    have e2 := sizeLine_eq
    omega
  refine ⟨p, _, c, rfl, upd_same, hz, fun ms p' so mem hp' => ?_⟩
  have g := q1 ms so fun k => by rw [mem k]; simp
  exact newL_ok s2.rel (of_intsR ms) g (fun v z F' M' H' s3 => k v z F' M' H' ((s1.trans s2).trans s3)) p' hp'
/-! ### a comprehension of a dict -/
def dcW (g : DTG) (tt : DTT) (tk te : DTE) (G : Mp → Prop) (ρ : Rho) (k : List ((Int ⊕ Str) × DL.D) → Mp → Prop) : List DL.D → List ((Int ⊕ Str) × DL.D) → Mp → Prop
  | [], acc, M => G M ∧ k acc M
  | x :: xs, acc, M => G M ∧ g x ρ M fun ρ2 M2 => tt ρ2 M2 fun b M3 => if b = true then tk ρ2 M3 fun y M4 => te ρ2 M4 fun d M5 => ∃ k0, keyD y = some k0 ∧ acc.length < sizeLine ∧ dcW g tt tk te G ρ k xs (putKD acc k0 d) M5 else dcW g tt tk te G ρ k xs acc M3
def dDc (wi : DTI) (g : DTG) (tt : DTT) (tk te : DTE) (vs : List Nat) : DTE := fun ρ M Q => wi ρ M fun items G M1 => dcW g tt tk te G (dwipe ρ vs) (fun kvs M2 => Q (.dct (kvs.map (·.1)) (kvs.map (·.2))) M2) items [] M1
theorem can_dc {wi : DTI} {g : DTG} {ws : List Nat} {tt : DTT} {tk te : DTE} {vs : List Nat} {σ : St} {H : Hp} {Q0 : VK} (hv : ∀ i ∈ ws, i ∈ vs) (h : canE Y (dDc wi g tt tk te vs) σ H Q0) :
    tDc (canI Y wi) (canG Y g ws) (canT Y tt) (canE Y tk) (canE Y te) vs σ H Q0 := by
  obtain ⟨F, M, ρ, Q, rs, r, q, k⟩ := h
  refine ⟨F, M, ρ, _, rs, r, q, fun J items G F1 M1 H1 s1 jw q1 => ?_⟩
  intro D hD
  have fD : F1 D = none := s1.rel.fnone hD
  have mD : M1 D = none := s1.rel.mnone hD
  let Pv : Nat → Hp → Prop := fun i H' => i ≤ items.length ∧ ∃ F2 M2 acc xs, Stp Y F1 M1 H1 F2 M2 H' ∧ F2 D = none ∧ M2 D = none ∧ H' D = some (.dK xs) ∧ RpKs X.K F2 xs acc ∧ dcW g tt tk te G (dwipe ρ vs) (fun kvs M2 => Q (.dct (kvs.map (·.1)) (kvs.map (·.2))) M2) (items.drop i) acc M2
  have s0 : Stp Y F1 M1 H1 F1 M1 (upd H1 D (.dK [])) := by
    refine Stp.of s1.rel ⟨Same.refl F1, ⟨fun b u z => ?_, fun a m z => ?_, s1.rel.r.nt⟩, fun a o h f m _ => ?_, tabs_new hD _⟩
    · rw [upd_ne (ne_of_none (s1.rel.sub _ _ z) hD)]; exact s1.rel.sub _ _ z
    · obtain ⟨f, o, e, rr⟩ := s1.rel.mt a m z
      exact ⟨f, o, by rw [upd_ne (ne_of_none e hD)]; exact e, rr⟩
    · rw [upd_ne (ne_of_none h hD)]; exact ⟨h, .inl f, m⟩
  refine ⟨fun i m H' => m = items.length - i ∧ Pv i H', ⟨items.length, by simp, Nat.zero_le _, F1, M1, [], [], s0, fD, mD, upd_same, .nil, q1⟩, ?_⟩
  rintro i m H2 ⟨rfl, hi, F2, M2, acc, xs, s2, f2, m2, h2, ra, q2⟩
  by_cases hlt : i < items.length
  · rw [List.drop_eq_getElem_cons hlt] at q2
    obtain ⟨g2, q2⟩ := q2
    have jj := (jw.run F2 M2 H2 s2.same s2.rel g2).2 i items[i] (List.getElem?_eq_getElem hlt)
    refine .inr ⟨jj.1, fun H3 => ∃ m', m' < items.length - i ∧ (m' = items.length - (i + 1) ∧ Pv (i + 1) H3), fun H3 h => h, fun x H3 y => ?_⟩
    obtain ⟨F3, s3, rp⟩ := jj.2 x H3 y
    obtain ⟨h3, f3, m3⟩ := s3.frN h2 f2 m2 (fun _ z => nomatch z) (fun _ _ => code_dK)
    have s23 := s2.trans s3
    refine ⟨F3, M2, dwipe ρ vs, items[i], _, rp, ((rs.mono s1.same).mono s23.same).wipe vs, s3.rel, q2, fun σ4 ρ4 F4 M4 H4 s4 rs4 o4 q4 => ?_⟩
    obtain ⟨h4, f4, m4⟩ := s4.frN h3 f3 m3 (fun _ z => nomatch z) (fun _ _ => code_dK)
    have s24 := s23.trans s4
    refine ⟨(o4.more hv).wipe.trans wipe_idem, F4, M4, ρ4, _, rs4, s4.rel, q4, fun b F5 M5 H5 s5 q5 => ?_⟩
    obtain ⟨h5, f5, m5⟩ := s5.frN h4 f4 m4 (fun _ z => nomatch z) (fun _ _ => code_dK)
    have s25 := s24.trans s5
    cases b with
    | false =>
      refine iteF ?_
      exact ⟨items.length - (i + 1), by omega, rfl, hlt, F5, M5, acc, xs, s25, f5, m5, h5, (((ra.mono s3.same).mono s4.same).mono s5.same), q5⟩
    | true =>
      refine iteT ?_
      refine ⟨F5, M5, ρ4, _, rs4.mono s5.same, s5.rel, q5, fun yv yd F6 M6 H6 s6 rp6 q6 => ?_⟩
      obtain ⟨h6, f6, m6⟩ := s6.frN h5 f5 m5 (fun _ z => nomatch z) (fun _ _ => code_dK)
      refine ⟨F6, M6, ρ4, _, (rs4.mono s5.same).mono s6.same, s6.rel, q6, fun v d F7 M7 H7 s7 rp7 ⟨k0, ek, hl, q7⟩ => ?_⟩
      obtain ⟨h7, f7, m7⟩ := s7.frN h6 f6 m6 (fun _ z => nomatch z) (fun _ _ => code_dK)
      have s27 := (s25.trans s6).trans s7
      have ra7 : RpKs X.K F7 xs acc := ((((ra.mono s3.same).mono s4.same).mono s5.same).mono s6.same).mono s7.same
      refine ⟨xs, k0, keyD_rp rp6 ek, h7, by rw [ra.length]; exact hl, items.length - (i + 1), by omega, rfl, hlt, F7, M7, putKD acc k0 d, putK xs k0 v, ?_, f7, m7, upd_same, ra7.put rp7, q7⟩
      refine Stp.of s1.rel ⟨s27.same, ⟨fun b u z => ?_, fun a m z => ?_, s7.rel.r.nt⟩, fun a o h f m n => ?_, fun t => tabs_not h7 (fun _ z => nomatch z) (fun _ _ => code_dK) (s27.s.tab t)⟩
      · rw [upd_ne (ne_of_none z f7)]; exact s7.rel.sub _ _ z
      · obtain ⟨f, o, e, rr⟩ := s7.rel.mt a m z
        have ne : a ≠ D := fun e => by subst e; rw [m7] at z; cases z
        exact ⟨f, o, by rw [upd_ne ne]; exact e, rr⟩
      · obtain ⟨h', f', m'⟩ := s27.fr a o h f m n
        rw [upd_ne (ne_of_none h hD)]; exact ⟨h', f', m'⟩
  · have e : i = items.length := by omega
    subst e
    rw [List.drop_length] at q2
    obtain ⟨g2, q2⟩ := q2
    refine .inl ⟨(jw.run F2 M2 H2 s2.same s2.rel g2).1, ?_⟩
    have sn : Same F2 (upd F2 D (.dK xs)) := same_new f2
    obtain ⟨z1, z2, z3⟩ := (ra.mono sn).zip
    refine k (.ref D) _ (upd F2 D (.dK xs)) M2 H2 (s1.trans (Stp.of s1.rel ⟨s2.same.trans sn, ⟨fun b u z => ?_, fun a m z => ?_, fun a ps z => ?_⟩, fun a o h f m n => ?_, s2.s.tab⟩)) (.dct (by rw [← z1]; exact upd_same) z2 z3) q2
    · by_cases e : b = D
      · subst e; rw [upd_same] at z; cases z; exact h2
      · rw [upd_ne e] at z; exact s2.rel.sub _ _ z
    · obtain ⟨f, o, e, rr⟩ := s2.rel.mt a m z
      have ne : a ≠ D := fun e => by subst e; rw [m2] at z; cases z
      exact ⟨by rw [upd_ne ne]; exact f, o, e, rr.mono sn⟩
    · by_cases e : a = D
      · subst e; rw [upd_same] at z; cases z
      · rw [upd_ne e] at z; exact s2.rel.r.nt a ps z
    · obtain ⟨h', f', m'⟩ := s2.fr a o h f m n
      exact ⟨h', by rw [upd_ne (ne_of_none h hD)]; exact f', m'⟩
theorem de_dc {kx vx tg iter : Expr} {ifs : List Expr} {scope : Scope} {own : List (Str × Nat)} {wi : DTI} {g : DTG} {ws : List Nat} {tt : DTT} {tk te : DTE} (hc : X.calm = true) (hN : X.N.Nodup) (hi : DI X Y tg iter wi) (ok : BlkOk X.N X.env.scope scope own) (hv : ∀ i ∈ ws, i ∈ own.map (·.2))
    (hg : ∀ (s : Shared) (H : Hp) (C : Addr) (cl : List (Str × Addr)) (fp : List Addr), DG (X.blk s H scope (compEnvC scope cl C X.env) fp) Y tg g ws) (ht : ∀ (s : Shared) (H : Hp) (C : Addr) (cl : List (Str × Addr)) (fp : List Addr), DTs (X.blk s H scope (compEnvC scope cl C X.env) fp) Y ifs tt)
    (hk : ∀ (s : Shared) (H : Hp) (C : Addr) (cl : List (Str × Addr)) (fp : List Addr), DE (X.blk s H scope (compEnvC scope cl C X.env) fp) Y kx tk)
    (he : ∀ (s : Shared) (H : Hp) (C : Addr) (cl : List (Str × Addr)) (fp : List Addr), DE (X.blk s H scope (compEnvC scope cl C X.env) fp) Y vx te) (hs : ∀ x, foldedSetIterable iter X.env x = pure x := by intro _; rfl) :
    DE X Y (.DictComp kx vx [⟨tg, iter, ifs, 0⟩] scope pos) (dDc wi g tt tk te (own.map (·.2))) :=
  PE.weak (pe_dc hc hN hi ok hg ht hk he hs) fun _ _ _ q => can_dc hv q
/-! ### update -/
def rUpdD : DL.D → List DL.D → Mp → DK → Prop := fun x ds M Q => ∃ a ks xs kvs, x = .ref a ∧ ds = [.dct ks xs] ∧ M a = some (.dic kvs) ∧ kvs.length + ks.length ≤ sizeLine ∧ Q .non (mu M a (.dic (mergeKD kvs (ks.zip xs))))
theorem merge_len : ∀ (more kvs : List ((Int ⊕ Str) × V)), (mergeK kvs more).length ≤ kvs.length + more.length
  | [], kvs => Nat.le_refl _
  | (k, v) :: more, kvs => by
    have h1 := merge_len more (putK kvs k v)
    have h2 := length_putK kvs k v
    show (mergeK (putK kvs k v) more).length ≤ _
    rw [List.length_cons]
    omega
theorem md_update : MtR X "dict.update" (canMt Y rUpdD) := by
  intro pins s σ H x vs v us Q0 I rx rv ⟨F, M, d, ds, Q, r1, r2, rl, ⟨a, ks, xs, kvs, e1, e2, hm, hz, q⟩, k⟩
  subst e1 e2
  cases r1
  obtain ⟨vy, rfl, ry⟩ := rp1 r2
  cases ry with
  | dct at1 len ra =>
    rename_i b ws
    obtain ⟨us1, h1, rk⟩ := rl.dic hm
    have h2 := rl.sub _ _ at1
    cases rx
    obtain ⟨u2, rfl, rv2⟩ := vals1 rv
    cases rv2
    have fa : F a = none := (rl.mt a _ hm).1
    have ne : a ≠ b := fun e => by subst e; rw [at1] at fa; cases fa
    obtain ⟨z1, lo1, kv1, rel1, dd1⟩ := dk_of I.hok h1
    obtain ⟨z2, lo2, kv2, rel2, dd2⟩ := dk_of I.hok h2
    have lz : (ks.zip ws).length = ks.length := by rw [List.length_zip, len]; simp
    have lw : us1.length + (ks.zip ws).length ≤ sizeLine := by rw [rk.length, lz]; exact hz
    refine call_meetsIn PySem.F.slot_dict_update dd1.typeIs PySem.F.entry_dict_update (PySem.F.args_dict_update_2 _ _) (meets_dict_update (mixKind X.prog X.w) a b ne lo2)
      ⟨kv1, kv2, dd1, dd2, by rw [← rel1.length, ← rel2.length]; exact lw, fun h' hm' _ hs => ?_⟩
    have rk2 : RpKs X.K F (ks.zip ws) (ks.zip xs) := RpAll.zip len ra
    have st := rl.setD hm h1 (RpKs.merge rk2 rk)
    have hl : (mergeK us1 (ks.zip ws)).length ≤ sizeLine := Nat.le_trans (merge_len _ _) lw
    have he : ∃ q, h'.get? a = some q := let ⟨q, _, _, hq, _⟩ := hm'; ⟨q, hq⟩
    have J := d_write (t' := s.toks) I (a := a) (ob := .dK (mergeK us1 (ks.zip ws))) (by rw [h1]; exact True.intro) hs he (dk_new hl lo1 (KV.merge rel2 rel1) hm')
    exact ⟨.non, _, J, rfl, k .non .non F _ _ st .non q⟩
end
end DL

set_option maxHeartbeats 4000000
/-! DX9a: update and get as expressions, enumerate over a tuple. -/
namespace DL
open PySem PySem.Spec L2
open PyProof.Rows hiding St

section
variable {X : Cx} {Y : KJ X.K} {pos p apos cpos tpos : Pos} {a b o e f : Expr} {t u to te : DTE} {elts : List Expr} {kk : Nat}
def dUpdate (to te : DTE) : DTE := fun ρ M Q => to ρ M fun x M1 => (∃ a kvs, x = .ref a ∧ M1 a = some (.dic kvs)) ∧ te ρ M1 fun d M2 => rUpdD x [d] M2 Q
theorem de_update (ho : DE X Y o to) (he : DE X Y e te) (hs : starEach [e] X.env = (false, eval e X.env) :: starEach [] X.env := by rfl) (hbase : attributeBase o "update" X.env (eval o X.env) = eval o X.env := by rfl) (hline : (apos.endLine == cpos.line) = true := by rfl)
    (hfew : ((backTo cpos (starEach [e] X.env)).all (fun x => !x.1) && (backToKw cpos (keywordEach [] X.env)).all (fun x => x.1.isSome)
      && decide (([e] : List Expr).length + ([] : List Keyword).length + (if ([] : List Keyword).isEmpty then 0 else 1) < 30)) = true := by rfl) :
    DE X Y (.Call (.Attribute o "update" apos) [e] [] cpos) (dUpdate to te) := by
  refine PE.weak (pe_bm PySem.F.plainAttrs_dict PySem.F.slot_dict_update PySem.F.type_dict_update (md_update (Y := Y)) ho (da_cons he da_nil hs) hbase hfew hline hs rfl) ?_
  rintro σ H Q0 ⟨F, M, ρ, Q, rs, rl, q, k⟩
  refine ⟨F, M, ρ, _, rs, rl, q, fun v d F1 M1 H1 s1 rp1 ⟨⟨a, kvs, e1, hm⟩, q1⟩ => ?_⟩
  subst e1
  cases rp1
  obtain ⟨vs, h1, _⟩ := s1.rel.dic hm
  refine ⟨.inr (.inr (.inl ⟨rfl, .inl ⟨_, h1⟩⟩)), F1, M1, ρ, fun ds M2 => rUpdD (.ref a) ds M2 Q, rs.mono s1.same, s1.rel, q1, fun vs ds F2 M2 H2 s2 rp2 q2 => ?_⟩
  exact ⟨F2, M2, .ref a, ds, Q, .ref a, rp2, s2.rel, q2, fun v z F3 M3 H3 s3 => k v z F3 M3 H3 ((s1.trans s2).trans s3)⟩
/-- {..}.get(e, n) of a written dict of texts and numbers -/
def dGetC (kvs : List (Str × Int)) (t : DTE) (n : Int) : DTE := fun ρ M Q => t ρ M fun d M1 => ∃ x, d = .str x ∧ Q ((lkD (.inr x) (kvs.map fun kv => Sum.inr kv.1) (kvs.map fun kv => .int kv.2)).getD (.int n)) M1
theorem de_getC {m : Nat} (hr : Room m X.A) {keys : List (Option Expr)} {values : List Expr} {dpos npos : Pos} {n : Int} {j : Nat} (kvs : List (Str × Int)) (h : PPs X dpos keys values (kvE kvs)) (hm : mergeK [] (kvV kvs) = kvV kvs) (he : DE X Y e t)
    (m2 : M2 X (.Dict keys values dpos) "get" apos e (.Constant (.int n) j npos) cpos) (hall : keys.all (·.isSome) = true := by rfl) (hl : keys.length = values.length := by rfl) (h0 : keys ≠ [] := by simp)
    (h15 : keys.length ≤ 15 := by decide) (few : kvs.length ≤ 15 := by decide) : DE X Y (.Call (.Attribute (.Dict keys values dpos) "get" apos) [e, .Constant (.int n) j npos] [] cpos) (dGetC kvs t n) := by
  have hu := hr.units
  refine PE.weak (pe_dget2 (by omega) (de_dictC (Y := Y) kvs h hm hall hl h0 h15 few) he (de_int (Y := Y)) m2) ?_
  rintro σ H Q0 ⟨F, M, ρ, Q, rs, rl, q, k⟩
  refine ⟨F, M, ρ, fun d M1 => M1 = M ∧ d = .dct (kvs.map fun kv => Sum.inr kv.1) (kvs.map fun kv => .int kv.2), rs, rl, ⟨rfl, rfl⟩, fun v d F1 M1 H1 s1 rp1 ⟨e1, e2⟩ => ?_⟩
  subst e1 e2
  cases rp1 with
  | dct at1 len ra =>
    rename_i a vs
    refine ⟨a, rfl, .inl ⟨_, .inl (s1.rel.sub _ _ at1)⟩, F1, M1, ρ, _, rs.mono s1.same, s1.rel, q, fun y d F2 M2 H2 s2 rp2 ⟨x, ex, q2⟩ => ?_⟩
    subst ex
    cases rp2
    refine ⟨F2, M2, ρ, fun z M3 => M3 = M2 ∧ z = .int n, (rs.mono s1.same).mono s2.same, s2.rel, ⟨rfl, rfl⟩, fun z zd F3 M3 H3 s3 rp3 ⟨e3, e4⟩ => ?_⟩
    subst e3 e4
    cases rp3
    refine ⟨_, .inl ⟨_, Sum.inr x, .inl (s3.rel.sub _ _ (s3.same _ _ (s2.same _ _ at1))), rfl, rfl⟩, ?_⟩
    have sT := (s1.trans s2).trans s3
    rcases lk_rp (Sum.inr x) ra len with ⟨h1, h2⟩ | ⟨d2, v2, h1, h2, h3⟩
    · rw [h1] at q2
      rw [h2]
      exact k _ _ F3 _ H3 sT (.int n) q2
    · rw [h1] at q2
      rw [h2]
      exact k _ _ F3 _ H3 sT ((h3.mono s2.same).mono s3.same) q2
end
/-! ### enumerate over a tuple -/
set_option maxHeartbeats 4000000 in
theorem meets_enum_tup {v : Value} {o : Obj} {H : Heap → Prop} (B : Begins v o H) :
    Meets (Builtin.«enumerate.__new__» ⟨[.type "enumerate", v], []⟩) (fun _ R s => H s.heap ∧
      R (.ok (.ret (.ref (s.heap.push o).objs.size))) { s with heap := (s.heap.push o).push { cls := .type "enumerate", data := .fields #[.none, .bool false, .ref s.heap.objs.size, rawInt 0, .none, .none] } }) :=
  .of_wp fun prog w A R s ⟨h1, h2⟩ => by
    obtain ⟨hp, g, d, tk, os⟩ := s
    have hsub := sub_enumerate
    have it : ∀ {A' : Around} {E : Value → Shared → Prop} {Q : Value → Shared → Prop}, Q (.ref hp.objs.size) ⟨hp.push o, g, d, tk, os⟩ → wpAny (model prog w) A' (pyIter v) Q E ⟨hp, g, d, tk, os⟩ := fun q => B.iter prog w _ _ ⟨hp, g, d, tk, os⟩ _ h1 q
    wp_walk using it
    refine wpAny_stack_any fun st => wpAny_pure ?_
    split
    · rename_i c _ _ _ _ _
      cases (c == Value.type "enumerate")
      · wp_walk using it
        exact ⟨_, rfl, h2⟩
      · wp_walk using it
        exact ⟨_, rfl, h2⟩
    · wp_walk using it
      exact ⟨_, rfl, h2⟩
section
variable {prog : Program} {w : World} {A : Around} {E : Value → Shared → Prop} {s : Shared}
theorem call_enum_tup {l : Addr} {items : Array Value} {Q : Value → Shared → Prop} (hL : s.heap.IsTuple l items)
    (k : ∀ h', IsEnum h' (s.heap.objs.size + 1) s.heap.objs.size 0 .none → h'.IsTupleIter s.heap.objs.size l 0 → (∀ b o, s.heap.get? b = some o → h'.get? b = some o) → Q (.ref (s.heap.objs.size + 1)) { s with heap := h' }) :
    wpAny (model prog w) A (call (.type "enumerate") [.ref l]) Q E s := by
  refine callType_new F.called_enumerate (by decide) (F.typeCall_enumerate_1 _) (F.newCall_enumerate_1 _) (fun obj => F.args_object_init_2 obj _) F.entry_enumerate_new (meets_enum_tup (begins_tuple l items)) ⟨hL, ?_⟩
  have sz : (s.heap.push { cls := .type "tuple_iterator", data := .fields #[.ref l, .int 0 0] }).objs.size = s.heap.objs.size + 1 := Heap.size_push ..
  show _ ∧ _
  rw [sz]
  have en : IsEnum ((s.heap.push { cls := .type "tuple_iterator", data := .fields #[.ref l, .int 0 0] }).push { cls := .type "enumerate", data := .fields #[.none, .bool false, .ref s.heap.objs.size, rawInt 0, .none, .none] }) (s.heap.objs.size + 1) s.heap.objs.size 0 .none := by
    have z := Heap.get?_push_size (s.heap.push { cls := .type "tuple_iterator", data := .fields #[.ref l, .int 0 0] }) (o := { cls := .type "enumerate", data := .fields #[.none, .bool false, .ref s.heap.objs.size, rawInt 0, .none, .none] }) rfl
    rw [sz] at z
    exact z
  exact ⟨⟨_, en, rfl⟩, k _ en ⟨_, Heap.get?_push_of_some _ (Heap.get?_push_size _ rfl), rfl, rfl⟩ fun b o y => Heap.get?_push_of_some _ (Heap.get?_push_of_some _ y)⟩
end
section
variable {X : Cx} {Y : KJ X.K} {pos p apos cpos tpos : Pos} {a b o e f : Expr} {t u to te : DTE} {elts : List Expr} {kk : Nat}
/-- the tuple at a, its items xs, each item in a new pair -/
def IteT (K : PySem.W.Frag) (a : Addr) : It :=
  ⟨fun i H => ∃ (xs : List V) (x : V), SqT K H a xs ∧ xs[i]? = some x, fun i H v H' => ∃ T x, v = .ref T ∧ H T = none ∧ H' = upd H T (.tup [.int (i : Nat), x]) ∧ ∀ xs, SqT K H a xs → xs[i]? = some x, fun i H => ∃ xs : List V, SqT K H a xs ∧ xs.length = i⟩
theorem turn_enumT {P : Program} {w : World} {K : PySem.W.Frag} {elts : List Expr} {kk : Nat} {tpos : Pos} (a en it : Addr) (ne : en ≠ it) (nt : a ≠ it) (nn : a ≠ en) :
    Turn P w K (.Tuple elts kk tpos) (IteT K a) [en, it] en (fun i h => (∃ old, IsEnum h en it ((i : Nat) : Int) old) ∧ h.IsTupleIter it a i) where
  mem := by simp
  obj := fun i h st b hb => by
    obtain ⟨⟨old, he⟩, ⟨o, ho, hc, hd⟩⟩ := st
    have e' : b = en ∨ b = it := by simpa using hb
    rcases e' with z | z
    · rw [z]; exact ⟨_, he, fun v q => nomatch q⟩
    · rw [z]; exact ⟨o, ho, fun v q => by rw [hd] at q; cases q⟩
  keep := fun i h h' st k => by
    obtain ⟨⟨old, he⟩, hi⟩ := st
    exact ⟨⟨old, k en (by simp) _ he⟩, hi.at fun o q => k it (by simp) o q⟩
  item := by
    intro X hP hw hK hc i pins s σ H E I hf st hg
    subst hP hw hK
    obtain ⟨⟨old, he⟩, hs⟩ := st
    obtain ⟨xs, x, hq, hx⟩ := hg
    obtain ⟨its, rv, tp, hz⟩ := I.tuple hq
    obtain ⟨u, hu, ru⟩ := rv.get hx
    have D1 := Draws.tuple (prog := X.prog) (w := X.w) (A := X.A.in1) (I.ok.hd hc) it a nt its.toArray
    have al : en < s.heap.objs.size := Heap.lt_size he
    have il : it < s.heap.objs.size := by obtain ⟨_, z, _⟩ := hs; exact Heap.lt_size z
    have hlt : i < its.toArray.size := by
      rw [List.size_toArray]
      exact (List.getElem?_eq_some_iff.mp hu).1
    refine wpAny_pyNext_enum_itemD D1 he ⟨hs, tp⟩ hlt ne (by simp [ne, Ne.symm nn]) fun y h' tk' py out hs' hT hsz hk => ?_
    have ey : y = u := by
      have py' : its.toArray[i]? = some y := py
      rw [List.getElem?_toArray, hu] at py'
      exact (Option.some.inj py').symm
    subst ey
    refine ⟨_, rfl, wpAny_letOwnedTupleGo_enum (s := { s with heap := h', toks := tk' + 1 }) out fun h'' he' sb => ?_⟩
    have hT2 : h''.get? s.heap.objs.size = some { cls := .type "tuple", data := .seq #[.int (i : Nat) tk', y] } := (sb.2 _ (Nat.ne_of_gt al)).trans hT
    have new : ObjOk X.prog X.w (upd H s.heap.objs.size (.tup [.int (i : Nat), x])) h'' s.heap.objs.size (.tup [.int (i : Nat), x]) :=
      ⟨by show 2 ≤ sizeLine; decide, [.int (i : Nat) tk', y], .cons ⟨_, rfl⟩ (.cons ru .nil), ⟨_, hT2, rfl, _, rfl⟩⟩
    have I1 : Inv X pins σ (upd H s.heap.objs.size (.tup [.int (i : Nat), x])) { s with heap := h'', toks := tk' + 1 } :=
      I.turnedNew (t' := tk' + 1) (ch := [en, it]) (fun b o hb q => (sb.2 b (fun z => hb (by simp [z]))).trans (hk b o (fun z => hb (by simp [z])) (fun z => hb (by simp [z])) q)) hf (Nat.le_refl _) new
    refine ⟨.ref s.heap.objs.size, _, I1, rfl, ⟨_, x, rfl, I.hok.fresh (Nat.le_refl _), rfl, fun ys hy => by rw [I.tuple_inj hy hq]; exact hx⟩, ⟨⟨y, ?_⟩, ?_⟩, fun b hb => ?_⟩
    · have e1 : ((i + 1 : Nat) : Int) = (i : Int) + 1 := by omega
      rw [e1]; exact he'
    · exact hs'.1.at fun o q => (sb.2 it (Ne.symm ne)).trans q
    · have e' : b = en ∨ b = it := by simpa using hb
      have lt : b < s.heap.objs.size := by rcases e' with q | q <;> rw [q] <;> assumption
      rw [upd_ne (Nat.ne_of_lt lt)]
      exact (hf b hb).1
  done := by
    intro X hP hw hK hc i pins s σ H E I hf st hg
    subst hP hw hK
    obtain ⟨⟨old, he⟩, hs⟩ := st
    obtain ⟨xs, hq, hl⟩ := hg
    obtain ⟨its, rv, tp, hz⟩ := I.tuple hq
    obtain ⟨f0, f1, f2, f3, f4, f5⟩ := hf it (by simp)
    have D1 := Draws.tuple (prog := X.prog) (w := X.w) (A := X.A.in1) (I.ok.hd hc) it a nt its.toArray
    have e : i = its.toArray.size := by rw [List.size_toArray, ← rv.length, hl]
    subst e
    exact wpAny_pyNext_enum_endD D1 he ⟨hs, tp⟩ fun h' eb => ⟨rfl, I.turned (t' := s.toks) (fun b o hb q => eb b o (by simpa using hb) q) f0 f1 f3 f4 f5⟩
  self := fun A i s Q E st h => let ⟨⟨_, he⟩, _⟩ := st; wpAny_pyIter_enum he h
def iEnumT (K : PySem.W.Frag) (ta : TA) : TI := fun σ H R => ta σ H fun vs H1 => ∃ a xs, vs = [.ref a] ∧ SqT K H1 a xs ∧ R (IteT K a) H1
theorem pi_enumT {ta : TA} (hg : Gl X "enumerate") (hm : X.mg "enumerate" = none) (ha : PA X [e] ta) (hs : starEach [e] X.env = (false, eval e X.env) :: starEach [] X.env) :
    PI X (.Tuple elts kk tpos) (.Call (.Name "enumerate" p) [e] [] pos) (iEnumT X.K ta) := by
  constructor
  intro pins s σ H R I h
  refine Call_ (ld_blt I hg hm boot_enumerate (PyProof.Rows.callWith_type1 (thn (ha.run pos pins s σ H _ I h) ?_) hs rfl))
  rintro us s1 ⟨vs, H1, I1, r1, a, xs, rfl, hq, q⟩
  obtain ⟨u1, rfl, r2⟩ := vals1 r1
  cases r2
  obtain ⟨its, rv, tp, hz⟩ := I1.tuple hq
  refine call_enum_tup tp fun h' he hit hk => wpAny_pyIter_enum he ?_
  have I2 : Inv X pins σ H1 { s1 with heap := h' } := I1.kept (t' := s1.toks) hk
  have la : a < s1.heap.objs.size := tp.lt
  refine ⟨s1.heap.objs.size + 1, [s1.heap.objs.size + 1, s1.heap.objs.size], _, _, H1, rfl, I2, turn_enumT a _ _ (Nat.succ_ne_self _) (Nat.ne_of_lt la) (Nat.ne_of_lt (Nat.lt_succ_of_lt la)), ⟨⟨.none, he⟩, hit⟩, fun b hb => ?_, q⟩
  have e' : b = s1.heap.objs.size + 1 ∨ b = s1.heap.objs.size := by simpa using hb
  have le : s1.heap.objs.size ≤ b := by
    rcases e' with z | z
    · rw [z]; exact Nat.le_add_right _ _
    · rw [z]; exact Nat.le_refl _
  exact I1.fpOk le (I1.hok.fresh le)
def dEnumT (t : DTE) : DTI := fun ρ M R => t ρ M fun d M1 => ∃ xs, d = .tup xs ∧ R (numD xs) (fun _ => True) M1
theorem di_enumT (hm : X.mg "enumerate" = none) (he : DE X Y e t) (hg : Gl X "enumerate" := by rfl) (hs : starEach [e] X.env = (false, eval e X.env) :: starEach [] X.env := by rfl) :
    DI X Y (.Tuple elts kk tpos) (.Call (.Name "enumerate" p) [e] [] pos) (dEnumT t) := by
  refine PI.weak (pi_enumT hg hm (pa_cons he pa_nil hs) hs) ?_
  rintro σ H R0 ⟨F, M, ρ, R, rs, rl, q, k⟩
  refine ⟨F, M, ρ, _, rs, rl, q, fun v d F1 M1 H1 s1 rp1 ⟨xs, ex, q1⟩ => ?_⟩
  subst ex
  cases rp1 with
  | tup sq ra =>
    rename_i a ws
    refine ⟨a, ws, rfl, Same.tseq s1.rel.sub sq, k _ _ _ F1 M1 H1 s1 ⟨fun F3 M3 H3 s3 r3 g => ?_⟩ q1⟩
    have sq3 : SqT X.K H3 a ws := Same.tseq (s3.trans r3.sub) sq
    have hl : (numD xs).length = ws.length := by unfold numD; simp [ra.length]
    refine ⟨⟨ws, sq3, hl.symm⟩, fun i dd hi => ?_⟩
    obtain ⟨y, hy, rfl⟩ := numD_get hi
    obtain ⟨w, hw, rw'⟩ := ra.get hy
    refine ⟨⟨ws, w, sq3, hw⟩, fun vv H4 yy => ?_⟩
    obtain ⟨T, x, rfl, hT, eH, hx⟩ := yy
    have e1 := hx ws sq3
    rw [hw] at e1
    cases e1
    exact jw_pair s3 r3 (.int _) (rw'.mono s3) hT eH
end
end DL

set_option maxHeartbeats 4000000
/-! DX9b: a lambda with one parameter, handed to a def of two parameters that calls it. -/
namespace DL
open PySem PySem.Spec L2 LamX
open PyProof.Rows hiding St

/-- the slot i, a lambda, called -/
def dAppL (i : Nat) (f : Addr) (tl : DTE) (t : DTE) : DTE := fun ρ M Q => ρ[i]? = some (some (.ref f)) ∧ t ρ M fun d M1 => tl [some d] M1 Q
/-- x(e, lambda): the def's own body, the lambda's reading within it -/
def dLam2 (N : List Str) (tb : Addr → DTS) (t : DTE) : DTE := fun ρ M Q => t ρ M fun d M1 => ∀ f, tb f { nx := fun _ M' => Q .non M', rt := Q } (dstart N [d, .ref f]) M1
theorem clo_nil {cells : List (Str × Addr)} : ∀ {ns : List (Str × NameKind)} {acc : List (Str × Addr)}, (∀ y ∈ ns, y.2 ≠ .free) → cloFrom cells ns acc = acc
  | [], acc, _ => rfl
  | (x, k) :: ns, acc, h => by
    have hk := h (x, k) List.mem_cons_self
    have ih := clo_nil (cells := cells) (ns := ns) (acc := acc) fun y hy => h y (List.mem_cons_of_mem _ hy)
    unfold cloFrom
    cases k <;> first | exact ih | exact absurd rfl hk
/-- a state behind the making of the lambda, its code object in sight -/
def lamJ {K : PySem.W.Frag} (T : TT8) (F0 : Hp) (M0 : Mp) (H0 : Hp) (c' : Addr) (q : Str) : KJ K where
  T := T
  J := fun F M H => StpR K T F0 M0 H0 F M H ∧ LamX.Tabs T H ∧ H c' = some (CodeO c' q)
  cl := by
    rintro F M H F' M' H' ⟨a, t, hc⟩ s
    refine ⟨a.trans s, s.tab t, ?_⟩
    have notT : ∀ ps, CodeO c' q ≠ .tbl ps := fun ps z => codeO_ne ps z
    cases e : F c' with
    | some o =>
      have h1 := a.rel.sub _ _ e
      rw [hc] at h1
      cases h1
      exact s.rel.sub _ _ (s.same _ _ e)
    | none =>
      cases e2 : M c' with
      | none => exact (s.fr _ _ hc e e2 notT).1
      | some m =>
        obtain ⟨_, o, h1, r⟩ := a.rel.mt _ _ e2
        rw [hc] at h1
        cases h1
        unfold CodeO at r
        cases m <;> exact r.elim
section
variable {X : Cx} {Y : KJ X.K}
/-- in the def that got the lambda: its call -/
theorem de_appL {x b y q : Str} {sg scope : Scope} {Ng : List Str} {g f c' : Addr} {cdv pm ctv : Value} {s2 : Shared} {H2 : Hp} {k : Nat} {params : Arguments} {body e : Expr} {t tl : DTE} {Y' : KJ X.K} {p1 p2 : Pos}
    (SL : FnScope [y] [y] scope) (hf : s2.heap.get? f = some (PySem.W.kla_obj "<lambda>" q params body scope [] pm c' ctv)) (hfn : H2 f = none) (hfr : f ∉ frs X.stack)
    (code : ∀ F M H, Y'.J F M H → H c' = some (CodeO c' q)) (onearg : ∀ u : Value, bindArgs (PySem.W.kla_fn "<lambda>" q params body scope [] pm (.ref c') ctv) ⟨[u], []⟩ = pure [(y, u)])
    (room : Room (k + 1) (X.A.deeper (envOfC x sg s2.heap.objs.size g cdv)))
    (inner : ∀ (A : Around) (outer : List Env) (s : Shared) (H : Hp), DE (cxOf C8.CX0 X.prog X.w X.K X.mg X.base [y] q scope f (.ref c') A outer s H C8.E0) Y' body tl)
    (N1 : Ng[1]? = some b) (vis : Vis sg b) (n2 : (b == ("__debug__" : Str)) = false) (n3 : (b == ("__classdict__" : Str)) = false)
    (he : DE (Zg X Ng x sg g cdv s2 H2) Y' e t) (se : starEach [e] (Zg X Ng x sg g cdv s2 H2).env = (false, eval e (Zg X Ng x sg g cdv s2 H2).env) :: starEach [] (Zg X Ng x sg g cdv s2 H2).env) :
    DE (Zg X Ng x sg g cdv s2 H2) Y' (.Call (.Name b p1) [e] [] p2) (dAppL 1 f tl t) := by
  constructor
  rintro pins s σ H Q0 I ⟨F, M, ρ, Q, rs, rl, ⟨sl, q1⟩, kk⟩
  apply wpAny_Call_Name_kw
  obtain ⟨vf, hs1, hs2⟩ := rs.2 1 _ sl
  cases hs2
  refine thn ((pe_var (pos := p1) (i := 1) N1 vis n2 n3).run pins s σ H (fun v G => v = .ref f ∧ G = H) I ⟨.ref f, hs1, rfl, rfl⟩) ?_
  rintro u s1 ⟨w0, G0, I1, rel, ev, eG⟩
  subst ev eG
  obtain rfl : u = Value.ref f := rel
  have lam := I1.base.keep f _ hf hfn hfr (by intro z; cases z)
  refine PySem.W.callWith_F ⟨_, _, _, _, lam⟩ ?_ se rfl
  rw [se]
  show wpAny _ _ (spliced ((false, eval e (Zg X Ng x sg g cdv s2 H2).env) :: backTo p2 (starEach [] (Zg X Ng x sg g cdv s2 H2).env))) _ _ s1
  apply Calls.spliced_cons
  refine thn (he.run pins s1 σ G0 (fun v1 H1 => ∃ d F1 M1, Stp Y' F M G0 F1 M1 H1 ∧ Rp X.K F1 v1 d ∧ tl [some d] M1 Q) I1 ⟨F, M, ρ, _, rs, rl, q1, fun v d F1 M1 H1 st rp z => ⟨d, F1, M1, st, rp, z⟩⟩) ?_
  rintro u s3 ⟨v1, H1, I3, rel1, d, F1, M1, st, rp, z⟩
  have lam := I3.base.keep f _ hf hfn hfr (by intro z; cases z)
  refine Calls.spliced_nil ⟨⟨_, _, _, _, lam⟩, ?_⟩
  have cd := code _ _ _ st.rel.j
  obtain ⟨⟨oc, vs, tt, c1, c2, c3⟩, _, _⟩ := I3.hok c' _ cd
  have run : codeAny (model X.prog X.w) (X.A.deeper (envOfC x sg s2.heap.objs.size g cdv)) (.call (.ref f) ⟨[u], []⟩) (CR C8.CX0 (envOfC x sg s2.heap.objs.size g cdv :: X.stack) X.prog X.w H1 s3 Q0 C8.E0) s3 := by
    apply PySem.W.kla_callFunE room.depth lam rfl SL.co SL.gen rfl ⟨c', oc, vs, tt, rfl, c1, c2, c3⟩
    rw [onearg]
    apply wpAny_pure
    refine wpAny_newFunctionEnv_cells SL.kind ?_ ?_
    · rintro ⟨n, v⟩ hy
      obtain ⟨rfl, rfl⟩ : n = y ∧ v = u := by simpa using hy
      rcases SL.par n (by simp) with k | k
      · exact .inl k
      · exact .inr ⟨k, PySem.W.cellsFrom_some _ _ _ (.inl k)⟩
    rintro env rfl s4 xx
    refine ⟨I3.nolimit.keeps xx.toInCall.keep, ?_⟩
    have J : Inv (cxOf C8.CX0 X.prog X.w X.K X.mg X.base [y] q scope f (.ref c') (X.A.deeper (envOfC x sg s2.heap.objs.size g cdv)) (envOfC x sg s2.heap.objs.size g cdv :: X.stack) s3 H1 C8.E0) [] (L2.start [y] [v1]) H1 s4 :=
      inv_start (us := [u]) SL room.hd I3.env0 rfl (.cons rel1 .nil) xx
    refine PySem.W.kla_codeExpr (wpAny_mono ((inner (X.A.deeper (envOfC x sg s2.heap.objs.size g cdv)) _ s3 H1).run [] _ _ H1 Q0 J ?_) ?_ fun e s' q => q)
    · exact ⟨F1, M1, [some d], Q, relS_start (N := [y]) (.cons rp .nil), st.rel, z, fun v d2 F2 M2 H2 s2 rp2 q2 => kk v d2 F2 M2 H2 (st.trans s2) rp2 q2⟩
    · rintro v s' ⟨w', G, J', rv, q⟩
      exact ⟨w', G, J'.os, J'.bare, J'.base, J'.hok, rv, q⟩
  apply wpAny_call
  refine codeAny_mono run ?_
  intro r s' res
  cases r with
  | error e => exact (show False from res).elim
  | ok fl => cases fl with
    | ret u => exact I3.after res
    | next => exact res.elim
    | brk => exact res.elim
    | cont => exact res.elim
/-- x(e, lambda y: body) -/
theorem de_lam2 {x a b y : Str} {st : Stmt} {Ng : List Str} {c P : Addr} {k : Nat} {params : Arguments} {body e1 : Expr} {scope : Scope} {t1 tl : DTE} {tb : Addr → DTS} {p lpos pos : Pos}
    (D : Has X.K X.mg x x st [a, b] []) (S : FnScope Ng [a, b] (defScope st)) (SL : FnScope [y] [y] scope)
    (tbB : TabB X.base X.mg c P) (cod : X.env.code = .ref c) (inT : (P, X.env.qual ++ "<lambda>") ∈ Y.T) (onlyT : ∀ p ∈ Y.T, p.1 = P → p.2 = X.env.qual ++ "<lambda>")
    (hr : Room (k + 2) X.A) (gu : X.A.guards = some []) (xt : XT Y) (h1 : DE X Y e1 t1)
    (inner : ∀ (A : Around) (outer : List Env) (s : Shared) (H : Hp) (f c' : Addr) (Y' : KJ X.K), DE (cxOf C8.CX0 X.prog X.w X.K X.mg X.base [y] (X.env.qual ++ "<lambda>") scope f (.ref c') A outer s H C8.E0) Y' body tl)
    (give : ∀ (g f : Addr) (cdv : Value) (s : Shared) (H : Hp) (Y' : KJ X.K), Room (k + 1) (X.A.deeper (envOfC x (defScope st) s.heap.objs.size g cdv)) →
      (∀ {e : Expr} {t : DTE} {p1 p2 : Pos}, DE (Zg X Ng x (defScope st) g cdv s H) Y' e t → starEach [e] (Zg X Ng x (defScope st) g cdv s H).env = (false, eval e (Zg X Ng x (defScope st) g cdv s H).env) :: starEach [] (Zg X Ng x (defScope st) g cdv s H).env →
        DE (Zg X Ng x (defScope st) g cdv s H) Y' (.Call (.Name b p1) [e] [] p2) (dAppL 1 f tl t)) →
      DSs (Zg X Ng x (defScope st) g cdv s H) Y' (defBody st) (tb f))
    (nofree : ∀ z ∈ scope.names, z.2 ≠ .free := by decide)
    (nodef : defaultsOf params X.env = ([], []) := by rfl) (onearg : ∀ (q : Str) (pm cv ctv u : Value), bindArgs (PySem.W.kla_fn "<lambda>" q params body scope [] pm cv ctv) ⟨[u], []⟩ = pure [(y, u)] := by intros; rfl)
    (gl : Gl X x := by rfl) (N1 : Ng[1]? = some b := by rfl) (vis : Vis (defScope st) b := by first | exact Or.inl rfl | exact Or.inr (Or.inl rfl))
    (n1 : (x == ("__debug__" : Str)) = false := by decide) (n2 : (b == ("__debug__" : Str)) = false := by decide) (n3 : (b == ("__classdict__" : Str)) = false := by decide)
    (se : starEach [e1, .Lambda params body scope lpos] X.env = (false, eval e1 X.env) :: starEach [.Lambda params body scope lpos] X.env := by rfl) :
    DE X Y (.Call (.Name x p) [e1, .Lambda params body scope lpos] [] pos) (dLam2 Ng tb t1) := by
  obtain ⟨g, oc, od, dV, kV, doc, pm, an, cdv, ct, osl, us, dvs, lk, hcd, kp, m, bi, vd, rd⟩ := D.ex
  have u0 : us = [] ∧ dvs = [] := by
    have := rd (fun _ => none)
    cases this
    cases vd
    exact ⟨rfl, rfl⟩
  obtain ⟨rfl, rfl⟩ := u0
  constructor
  rintro pins s σ H Q0 I ⟨F, M, ρ, Q, rs, rl, q, kk⟩
  apply wpAny_Call_Name_kw
  refine ld_glob I gl m ?_ n1
  refine PySem.W.callWith_K (h₀ := X.base) I.ok.mod.kin kp ?_ se (by rfl)
  rw [se]
  show wpAny _ _ (spliced ((false, eval e1 X.env) :: (false, eval (.Lambda params body scope lpos) X.env) :: backTo pos (starEach [] X.env))) _ _ s
  apply Calls.spliced_cons
  refine thn (h1.run pins s σ H (fun v1 H1 => ∃ d F1 M1, Stp Y F M H F1 M1 H1 ∧ Rp X.K F1 v1 d ∧ ∀ f, tb f { nx := fun _ M' => Q .non M', rt := Q } (dstart Ng [d, .ref f]) M1) I ⟨F, M, ρ, _, rs, rl, q, fun v d F1 M1 H1 st rp z => ⟨d, F1, M1, st, rp, z⟩⟩) ?_
  rintro u s1 ⟨v1, H1, I1, rel1, d, F1, M1, st, rp, z⟩
  apply Calls.spliced_cons
  apply lam_make2 I1 tbB cod inT onlyT (xt.tabs _ _ _ st.rel.j) nodef (fun z hz e => absurd e (nofree z hz))
  intro f c' pm' ctv H2 s2 I2 eN T2 hf hfn hfr hco
  rw [clo_nil nofree] at hf
  refine Calls.spliced_nil ⟨I2.kIn, ?_⟩
  have st2 := RelR.ext (T := Y.T) st.rel.r eN (fun _ => T2)
  have run : codeAny (model X.prog X.w) X.A (.call (.ref g) ⟨[u, .ref f], []⟩) (CR C8.CX0 X.stack X.prog X.w H2 s2 Q0 C8.E0) s2 := by
    refine run_ofS (N := Ng) (ps := [a, b]) (us := [u, .ref f]) (vs := [v1, .ref f]) lk hcd S hr I2.env0 (bi s2 [u, .ref f] I2.kIn rfl) (.cons rel1 (.cons rfl .nil)) rfl ?_
    intro room'
    refine ⟨_, give g f cdv s2 H2 (lamJ Y.T F1 M1 H2 c' (X.env.qual ++ "<lambda>")) room' (fun he hse => de_appL SL hf hfn hfr (fun F M H j => j.2.2) (onearg _ _ _ _) room' (fun A outer s H => inner A outer s H f c' _) N1 vis n2 n3 he hse), ?_⟩
    refine ⟨F1, M1, dstart Ng [d, .ref f], { nx := fun _ M' => Q .non M', rt := Q }, relS_start (N := Ng) (.cons rp (.cons (.ref f) .nil)), ⟨st2.rel, StpR.refl st2.rel, T2, hco⟩, z f, ?_⟩
    exact ⟨fun _ _ F' M' H' s' _ q' => kk .non .non F' M' H' ((st.trans (Stp.of st.rel st2)).trans (Stp.of (st.trans (Stp.of st.rel st2)).rel s'.s)) .non q',
      fun v d F' M' H' s' rp' q' => kk v d F' M' H' ((st.trans (Stp.of st.rel st2)).trans (Stp.of (st.trans (Stp.of st.rel st2)).rel s'.s)) rp' q',
      fun _ _ _ _ _ _ _ z => z.elim, fun _ _ _ _ _ _ _ z => z.elim⟩
  apply wpAny_call
  refine codeAny_mono run ?_
  intro r s3 q
  match r, q with
  | .error _, q => exact (show False from q).elim
  | .ok (.ret u), q => exact I2.after q
  | .ok .next, q => exact q.elim
  | .ok .brk, q => exact q.elim
  | .ok .cont, q => exact q.elim
end
end DL

/-! DX9c: a def whose last parameter has a whole number as its default, asked without it. -/
namespace DL
open PySem PySem.Spec L2
open PyProof.Rows hiding St
def DfnI (K : PySem.W.Frag) (x : Str) (st : Stmt) (i : Int) : Prop := ∃ (f : Addr) (oc : Value) (od : Option Addr) (T : Addr) (o : Obj) (t : Tok) (n : Nat) (kV doc pm : Value) (an : Option Addr) (cd ct : Value) (osl : Array (Option Value)),
  PySem.W.nsIn K mainGlobals x = some (some (.ref f)) ∧ K.lookup f = some ⟨oc, od, .func (PySem.W.fnOf x x (defArgs st) (defBody st) (defScope st) (.ref T) kV doc pm an cd ct), osl⟩ ∧ PySem.W.codeIn K cd x = true ∧ PySem.W.keepIn K (.ref f) = true ∧ K.lookup T = some o ∧ o.data = .seq [Value.int i t].toArray n
section
variable {K : PySem.W.Frag} {h : Heap} {mg : Str → Option Value} {x : Str} {st : Stmt} {f : Addr} {oc : Value} {od : Option Addr} {kV doc pm : Value} {an : Option Addr} {cd ct : Value} {osl : Array (Option Value)} {i : Int}
theorem dfnI_mk {T : Addr} {c2 : Value} {d2 : Option Addr} {t : Tok} {n : Nat} {s2 : Array (Option Value)} (a : PySem.W.nsIn K mainGlobals x = some (some (.ref f))) (l : K.lookup f = some ⟨oc, od, .func (PySem.W.fnOf x x (defArgs st) (defBody st) (defScope st) (.ref T) kV doc pm an cd ct), osl⟩) (c : PySem.W.codeIn K cd x = true) (k : PySem.W.keepIn K (.ref f) = true)
    (lT : K.lookup T = some ⟨c2, d2, .seq #[.int i t] n, s2⟩) : DfnI K x st i := ⟨f, oc, od, T, _, t, n, kV, doc, pm, an, cd, ct, osl, a, l, c, k, lT, rfl⟩
theorem DfnI.toT (D : DfnI K x st i) : DfnT K x st := by
  obtain ⟨f, oc, od, T, o, t, n, kV, doc, pm, an, cd, ct, osl, a, l, c, k, lT, oT⟩ := D
  exact ⟨f, oc, od, T, o, _, n, kV, doc, pm, an, cd, ct, osl, a, l, c, k, lT, oT⟩
theorem hasI_of (X : K.In h) (G : h.Ns mainGlobals mg) {ps : List Str} (D : DfnI K x st i)
    (b : ∀ (T : Addr) (kV doc pm : Value) (an : Option Addr) (cd ct : Value) (us : List Value) (u : Value), us.length + 1 = ps.length →
      ∃ k, bindArgs (PySem.W.fnOf x x (defArgs st) (defBody st) (defScope st) (.ref T) kV doc pm an cd ct) ⟨us, []⟩ = seqItems? (.ref T) >>= k ∧ k (some #[u]) = pure (ps.zip (us ++ [u]))) : Has K mg x x st ps [.int i] := by
  obtain ⟨f, oc, od, T, o, t, n, kV, doc, pm, an, cd, ct, osl, a, l, c, k, lT, oT⟩ := D
  refine ⟨f, oc, od, .ref T, kV, doc, pm, an, cd, ct, osl, [.int i t], [.int i], l, c, k, PySem.W.mg_of X G a, fun s us X2 hl => ?_, .cons ⟨t, rfl⟩ .nil, fun F => .cons (.int i) .nil⟩
  rw [List.length_append] at hl
  obtain ⟨kk, e1, e2⟩ := b T kV doc pm an cd ct us (.int i t) hl
  refine BindsTo.of_looks fun M => ?_
  rw [e1]
  exact looks_items X2 lT oT (.of_pure e2)
end
end DL

set_option maxHeartbeats 4000000
/-! DY1: starred items, extend by tuples, insert, max of a list, min of data, in over data. -/
namespace DL
open PySem PySem.Spec L2
open PyProof.Rows hiding St
section
variable {X : Cx} {Y : KJ X.K} {pos p sp_ apos cpos : Pos} {o e : Expr} {es : List Expr} {t to te : DTE} {u : DTA}
/-! ### [*xs, ..] -/
def dStarA (t : DTE) (u : DTA) : DTA := fun ρ M Q => t ρ M fun d M1 => ∃ xs, seqOf M1 d = some xs ∧ u ρ M1 fun ds M2 => Q (xs ++ ds) M2
theorem da_star (he : DE X Y e t) (hr : DA X Y es u) (hs : starEach (.Starred e p :: es) X.env = (true, eval e X.env) :: starEach es X.env := by rfl) : DA X Y (.Starred e p :: es) (dStarA t u) := by
  refine ⟨fun pos pins s σ H Q0 I q => ?_⟩
  refine (StX.pa_star he hr hs).run pos pins s σ H Q0 I ?_
  obtain ⟨F, M, ρ, Q, rs, rl, q, k⟩ := q
  refine ⟨F, M, ρ, _, rs, rl, q, fun v d F1 M1 H1 s1 rp ⟨xs, e1, q1⟩ => ?_⟩
  obtain ⟨a, vs, rfl, h1, ra⟩ := seqOf_rp s1.rel rp e1
  refine ⟨a, vs, rfl, h1.symm, F1, M1, ρ, _, rs.mono s1.same, s1.rel, q1, fun ws ds F2 M2 H2 s2 rp2 q2 => ?_⟩
  exact k (vs ++ ws) (xs ++ ds) F2 M2 H2 (s1.trans s2) ((ra.mono s2.same).append rp2) q2
/-! ### extend by a list or a tuple -/
def lstT (M : Mp) : DL.D → Option (List DL.D)
  | .tup xs => some xs
  | .lst xs => some xs
  | .ref a => mol (M a)
  | _ => none
theorem list_extend_tup (l : Addr) (items : Array Value) (n : Nat) (b : Addr) (items2 : Array Value) (n2 : Nat) (dd : Option Addr) (sl : Array (Option Value)) (hs0 : ¬(!items.isEmpty && Builtin.List.listTooLong (items.size + items2.size)) = true) (hs1 : items.size ≤ sizeLine) (hs2 : items.size + items2.size ≤ sizeLine + 1) :
    Meets (Builtin.«list.extend» ⟨[.ref l, .ref b], []⟩) (fun _ R s => s.heap.get? l = some { cls := .type "list", dict := none, data := .seq items n, slots := #[] } ∧ s.heap.get? b = some { cls := .type "tuple", dict := dd, data := .seq items2 n2, slots := sl } ∧ R (.ok (.ret Value.none)) { s with heap := s.heap.update l (Obj.mapSeq fun x => x ++ items2), toks := s.toks }) :=
  .of_wp fun prog w A R s h => by
    obtain ⟨hp, g, d, tk, os⟩ := s; obtain ⟨hl, hb, h⟩ := h; have f1 := AutoSeq1.idx_int; have f2 := AutoSeq1.sub_tuple_tuple; have f3 := AutoSeq1.sub_list_list; have f4 := AutoSeq1.sub_tuple_list; have f5 := AutoSeq1.sub_list_tuple;
    have hz' : (items ++ items2).size ≤ sizeLine + 1 := by rw [Array.size_append]; exact hs2
    wp_walk using (wpAny_updateSeq hl rfl (hz := hs1) (_hz' := hz')), wpAny_loadPart' hl, wpAny_loadPart' hb; exact ⟨_, rfl, h⟩
theorem mt_extendT : MtM X "list.extend" fun x vs H Q => ∃ (l b : Addr) (xs zs : List V), x = .ref l ∧ vs = [.ref b] ∧ H l = some (.lst xs) ∧ SqT X.K H b zs ∧ xs.length + zs.length ≤ sizeLine ∧ Q .non (upd H l (.lst (xs ++ zs))) := by
  intro pins s σ H x vs v us Q I rx rv h
  obtain ⟨l, b, xs, zs, rfl, rfl, hH, hB, hz, q⟩ := h
  cases rx
  obtain ⟨u, rfl, ru⟩ := rv.one
  cases ru
  obtain ⟨z, its, n, r, hl, e⟩ := I.lstM hH
  obtain ⟨its2, r2, ⟨o2, e2, c2, n2, d2⟩, hz2⟩ := I.tuple hB
  have hsz : its.toArray.size + its2.toArray.size ≤ sizeLine := by rw [List.size_toArray, List.size_toArray]; have := r2.length; omega
  have hlong : ¬ (!its.toArray.isEmpty && Builtin.List.listTooLong (its.toArray.size + its2.toArray.size)) = true := by
    rw [notLongL hsz, Bool.and_false]
    exact Bool.false_ne_true
  obtain ⟨cl2, dd2, da2, sl2⟩ := o2
  dsimp only at c2 d2
  subst c2 d2
  refine call_meets F.slot_list_extend ⟨_, e, rfl⟩ F.entry_list_extend (F.args_list_extend_2 _ _)
    (list_extend_tup l its.toArray n b its2.toArray n2 dd2 sl2 hlong (by rw [List.size_toArray]; omega) (by omega)) ⟨e, e2, ?_⟩
  refine ⟨.non, _, I.lset (its' := its ++ its2) hH e (by simp) (r.append r2) ?_, rfl, q⟩
  rw [List.length_append]
  omega
def rExtT : DL.D → List DL.D → Mp → DK → Prop := fun x ds M Q => ∃ a y xs ys, x = .ref a ∧ ds = [y] ∧ M a = some (.lst xs) ∧ lstT M y = some ys ∧ xs.length + ys.length ≤ sizeLine ∧ Q .non (mu M a (.lst (xs ++ ys)))
theorem md_extendT : MtR X "list.extend" (canMt Y rExtT) := by
  intro pins s σ H x vs v us Q0 I rx rv ⟨F, M, d, ds, Q, r1, r2, rl, ⟨a, y, xs, ys, e1, e2, hm, hy, hz, q⟩, k⟩
  by_cases ht : lstIn M y = some ys
  · exact md_extend pins s σ H x vs v us Q0 I rx rv ⟨F, M, d, ds, Q, r1, r2, rl, ⟨a, y, xs, ys, e1, e2, hm, ht, hz, q⟩, k⟩
  · subst e1 e2
    have ey : y = .tup ys := by
      cases y <;> simp only [lstT, lstIn] at hy ht <;> first | (cases hy; rfl) | exact absurd hy ht | cases hy
    subst ey
    cases r1
    obtain ⟨vy, rfl, ry⟩ := rp1 r2
    obtain ⟨ws, h1, ra⟩ := rl.lst hm
    cases ry with
    | tup sq rb =>
      exact mt_extendT pins s σ H _ _ v us Q0 I rx rv ⟨a, _, ws, _, rfl, rfl, h1, Same.tseq rl.sub sq, by rw [ra.length, rb.length]; exact hz, k _ .non F _ _ (rl.set hm (xs := (ws ++ _)) (ds := (xs ++ ys)) (ra.append rb)) .non q⟩
def dExtendT (to te : DTE) : DTE := dBM rExtT to (dCons te dNil)
theorem de_extendT (ho : DE X Y o to) (he : DE X Y e te) (hs : starEach [e] X.env = (false, eval e X.env) :: starEach [] X.env := by rfl) (hbase : attributeBase o "extend" X.env (eval o X.env) = eval o X.env := by rfl) (hline : (apos.endLine == cpos.line) = true := by rfl)
    (hfew : ((backTo cpos (starEach [e] X.env)).all (fun x => !x.1) && (backToKw cpos (keywordEach [] X.env)).all (fun x => x.1.isSome)
      && decide (([e] : List Expr).length + ([] : List Keyword).length + (if ([] : List Keyword).isEmpty then 0 else 1) < 30)) = true := by rfl) :
    DE X Y (.Call (.Attribute o "extend" apos) [e] [] cpos) (dExtendT to te) :=
  de_bm PySem.F.slot_list_extend PySem.F.type_list_extend md_extendT ho (da_cons he da_nil hs) hbase hfew hline hs rfl
/-! ### insert -/
def rInsD : DL.D → List DL.D → Mp → DK → Prop := fun x ds M Q => ∃ a i y xs, x = .ref a ∧ ds = [.int i, y] ∧ M a = some (.lst xs) ∧ xs.length < sizeLine ∧ 0 ≤ i ∧ i < 2 ^ 63 ∧ Q .non (mu M a (.lst (xs.take i.toNat ++ [y] ++ xs.drop i.toNat)))
theorem md_insert : MtR X "list.insert" (canMt Y rInsD) := by
  intro pins s σ H x vs v us Q0 I rx rv ⟨F, M, d, ds, Q, r1, r2, rl, ⟨a, i, y, xs, e1, e2, hm, hz, h0, h1, q⟩, k⟩
  subst e1 e2
  cases r1
  cases r2 with
  | cons ri r2 =>
    cases ri
    obtain ⟨vy, rfl, ry⟩ := rp1 r2
    obtain ⟨ws, hw, ra⟩ := rl.lst hm
    refine mt_insert pins s σ H _ _ v us Q0 I rx rv ⟨a, ws, i, vy, rfl, rfl, hw, by rw [ra.length]; exact hz, h0, h1, k _ .non F _ _ (rl.set hm (xs := (ws.take i.toNat ++ [vy] ++ ws.drop i.toNat)) (ds := (xs.take i.toNat ++ [y] ++ xs.drop i.toNat)) (((ra.take _).append (.cons ry .nil)).append (ra.drop _))) .non q⟩
def dInsert (to ti te : DTE) : DTE := dBM rInsD to (dCons ti (dCons te dNil))
theorem de_insert {e2 : Expr} {ti : DTE} (ho : DE X Y o to) (hi : DE X Y e ti) (he : DE X Y e2 te) (hs : starEach [e, e2] X.env = (false, eval e X.env) :: starEach [e2] X.env := by rfl) (hs2 : starEach [e2] X.env = (false, eval e2 X.env) :: starEach [] X.env := by rfl) (hbase : attributeBase o "insert" X.env (eval o X.env) = eval o X.env := by rfl) (hline : (apos.endLine == cpos.line) = true := by rfl)
    (hfew : ((backTo cpos (starEach [e, e2] X.env)).all (fun x => !x.1) && (backToKw cpos (keywordEach [] X.env)).all (fun x => x.1.isSome)
      && decide (([e, e2] : List Expr).length + ([] : List Keyword).length + (if ([] : List Keyword).isEmpty then 0 else 1) < 30)) = true := by rfl) (hplain : (backTo cpos (starEach [e2] X.env)).any (·.1) = false := by rfl) :
    DE X Y (.Call (.Attribute o "insert" apos) [e, e2] [] cpos) (dInsert to ti te) :=
  de_bm PySem.F.slot_list_insert PySem.F.type_list_insert md_insert ho (da_cons hi (da_cons he da_nil hs2) hs) hbase hfew hline hs hplain
/-! ### max(a list of numbers), min(a list of data), in a tuple of data -/
def rMaxLD : RDL := fun ds M Q => ∃ (d : DL.D) (ns : List Int), ds = [d] ∧ lstOf M d = some (ns.map DL.D.int) ∧ 0 < ns.length ∧ ∀ m, m ∈ ns → (∀ y, y ∈ ns → y ≤ m) → Q (.int m) M
theorem cd_maxL (hc : X.calm = true) : CallD X Y (.builtin "max") rMaxLD := by
  intro pins s σ H vs us Q0 I r ⟨F, M, ds, Q, rp, rl, ⟨d, ns, e, e1, hn, q⟩, k⟩
  subst e
  obtain ⟨v, rfl, r1⟩ := rp1 rp
  obtain ⟨l, ws, rfl, h1, ra⟩ := lstOf_rp rl r1 e1
  rw [rp_intsR ra] at h1
  exact cr_max hc pins s σ H _ us Q0 I r ⟨l, ns, rfl, h1, hn, fun m a b => k _ _ F M H (Stp.refl rl) (.int _) (q m a b)⟩
theorem pyAll_at : ∀ {xs : List DL.D} {ps : List PyData} {i : Nat} {y : DL.D}, pyAll xs = some ps → xs[i]? = some y → ∃ p, ps[i]? = some p ∧ y.py = some p
  | [], _, _, _, _, h => by simp at h
  | x :: xs, ps, i, y, e, h => by
    simp only [pyAll] at e
    split at e
    · rename_i p ps' e1 e2
      cases e
      cases i with
      | zero => simp at h; subst h; exact ⟨p, rfl, e1⟩
      | succ i =>
        obtain ⟨q, h1, h2⟩ := pyAll_at (i := i) e2 (by simpa using h)
        exact ⟨q, by simpa using h1, h2⟩
    · cases e
def rMinPD : RDL := fun ds M Q => ∃ (d : DL.D) (xs : List DL.D) (p : PyData) (ps : List PyData), ds = [d] ∧ lstOf M d = some xs ∧ pyAll xs = some (p :: ps) ∧ PySem.W.AlikeAll (p :: ps) ∧ PyData.depthAll (p :: ps) ≤ 60 ∧
  ∀ (i : Nat) (y : DL.D), xs[i]? = some y → y.py = some (PySem.W.minD p ps) → Q y M
theorem cd_minP {n : Nat} (hr : Room n X.A) (hc : X.calm = true) : CallD X Y (.builtin "min") rMinPD := by
  intro pins s σ H vs us Q0 I r ⟨F, M, ds, Q, rp, rl, ⟨d, xs, p, ps, e, e1, e2, al, dp, q⟩, k⟩
  subst e
  obtain ⟨v, rfl, r1⟩ := rp1 rp
  obtain ⟨l, ws, rfl, h1, ra⟩ := lstOf_rp rl r1 e1
  obtain ⟨its, rv, hl, hz⟩ := I.list h1
  obtain ⟨as, rs⟩ := Dp.readsAll I _ _ _ (pyAll_dp rl.sub xs ws _ ra e2) rv
  have hu := hr.units
  rw [Vals.ref1 r]
  refine PySem.W.min_list_data (I.ok.hd hc) hl.isList (by simpa using rs) al (by omega) fun i u h' tk bs hi rd hk => ?_
  have hi' : its[i]? = some u := by simpa using hi
  obtain ⟨w, hw, rw'⟩ : ∃ w, ws[i]? = some w ∧ RelV w u := by
    have l1 := rv.length
    have l2 := (List.getElem?_eq_some_iff.mp hi').1
    obtain ⟨u', h1, h2⟩ := Vals.get (i := i) (x := ws[i]'(by omega)) rv (List.getElem?_eq_getElem (by omega))
    rw [hi'] at h1
    cases h1
    exact ⟨_, List.getElem?_eq_getElem (by omega), h2⟩
  obtain ⟨y, hy, ry⟩ := ra.get' hw
  obtain ⟨pi, hp, ep⟩ := pyAll_at e2 hy
  obtain ⟨cs, rd2⟩ := Dp.reads I pi w u (py_dp rl.sub y w pi ry ep) rw'
  obtain ⟨eq, _⟩ := PyProof.Rows.reads_det (fun b o e _ => hk b o e) rd2 rd
  subst eq
  exact ⟨w, H, I.kept hk, rw', k _ _ F M H (Stp.refl rl) ry (q i y hy ep)⟩
def rInTD (neg : Bool) : RD2 := fun x y M Q => ∃ (p : PyData) (qs : List PyData) (ys : List DL.D), pyM M x = some p ∧ y = .tup ys ∧ pyAll ys = some qs ∧ SeqAt.shaped p = true ∧ SeqAt.shaped (.tuple qs) = true ∧ p.depth ≤ 60 ∧
  Q (.bl (if neg = true then !(qs.any fun z => PyData.eqv z p) else qs.any fun z => PyData.eqv z p)) M
theorem od_inT {n : Nat} (hr : Room n X.A) : OpD X Y (compareOp .In) (rInTD false) := by
  intro pins s σ H x y v u Q0 I rx ry ⟨F, M, d, e, Q, r1, r2, rl, ⟨p, qs, ys, e1, e2, e3, s1, s2, dp, q⟩, k⟩
  subst e2
  have k1 := k _ _ F M H (Stp.refl rl) (.bl _) q
  have d1 := pyM_dp rl r1 e1
  have d2 := pyM_dp (p := .tuple qs) rl r2 (by show D.py (.tup ys) = _; rw [D.py, e3])
  obtain ⟨as, a1⟩ := Dp.reads I p x v d1 rx
  obtain ⟨bs, a2⟩ := Dp.reads I (.tuple qs) y u d2 ry
  have hu := hr.units
  exact SeqAt.in_tuple_reads a2 a1 (SeqAt.canLay_of_shaped s2) (SeqAt.canLay_of_shaped s1) (by omega) ⟨.bl _, H, I, rfl, k1⟩
end
end DL

set_option maxHeartbeats 4000000
/-! DY2: lambdas as values: made, kept, handed to a def that calls them. -/
namespace DL
open PySem PySem.Spec L2 LamX
open PyProof.Rows hiding St

/-- at f: the lambda, its code object at c' -/
def LamP (q : Str) (params : Arguments) (body : Expr) (scope : Scope) (cl : List (Str × Addr)) : Addr → Addr → Heap → Prop := fun f c' h => ∃ pm ctv : Value, h.get? f = some (PySem.W.kla_obj "<lambda>" q params body scope cl pm c' ctv)
theorem lamP_ok {P : Program} {w : World} {H : Hp} {h : Heap} {f c' : Addr} {q : Str} {params : Arguments} {body : Expr} {scope : Scope} {cl : List (Str × Addr)} {pm ctv : Value} (e : h.get? f = some (PySem.W.kla_obj "<lambda>" q params body scope cl pm c' ctv)) :
    ObjOk P w H h f (.ext (LamP q params body scope cl f c')) := ⟨⟨pm, ctv, e⟩, ⟨_, e⟩, fun h1 h2 ⟨pm, ctv, a⟩ st => ⟨pm, ctv, st _ a⟩⟩
section
variable {X : Cx} {pins : List (Addr × Obj)} {σ : L2.St} {H : Hp} {s : Shared}
/-- the lambda is made, and tracked -/
theorem lam_makeX {T : List (Addr × Str)} {c P : Addr} {params : Arguments} {body : Expr} {scope : Scope} {pos : Pos} {E : Value → Shared → Prop} {Q : Value → Shared → Prop} (I : Inv X pins σ H s) (TB : TabB X.base X.mg c P) (hcode : X.env.code = .ref c)
    (hm : (P, X.env.qual ++ "<lambda>") ∈ T) (hu : ∀ p ∈ T, p.1 = P → p.2 = X.env.qual ++ "<lambda>") (hT : Tabs T H) (hdef : defaultsOf params X.env = ([], [])) (hfree : ∀ y ∈ scope.names, y.2 = .free → ∃ c, X.env.cells.lookup y.1 = some c)
    (h : ∀ (f c' : Addr) (H1 : Hp) (s' : Shared), Inv X pins σ (upd H1 f (.ext (LamP (X.env.qual ++ "<lambda>") params body scope (cloFrom X.env.cells scope.names []) f c'))) s' → ExtN H H1 → Tabs T H1 → H1 f = none → H1 c' = some (CodeO c' (X.env.qual ++ "<lambda>")) → Q (.ref f) s') :
    wpAny (model X.prog X.w) X.A (eval (.Lambda params body scope pos) X.env) Q E s := by
  obtain ⟨ps, hP, ht, ha⟩ := hT _ hm
  refine PySem.W.kla_eval hdef ?_
  have bP : s.heap.BuiltinsAt X.mg P := TB.bm.keeps I.bk
  have hP' : s.heap.get? P = some { cls := .none, data := .fields ps } := I.hok P _ hP
  cases hc : codeAmong pos ps.toList with
  | none =>
    refine PySem.W.kla_makeFunction (mg := X.mg) (c := c) (P := P) (ps := ps) (closure_ok hfree) I.ok.glob (I.mod.glob.keeps I.bk) hcode (TB.code.keeps I.bk) hP' ht hc TB.gP bP fun c' ctv h' tk hx hge hlt hrec htb => ?_
    obtain ⟨c2, oc, vs, t, e2, hoc, hd, hv⟩ := hrec
    cases e2
    have nC : H c' = none := I.hok.fresh hge
    have I0 := inv_table (t' := tk) (more := #[rawInt pos.line, rawInt pos.col, .ref c']) (h' := h') I hP hx htb hge ⟨oc, vs, t, hoc, hd, hv⟩
    have I1 := I0.laid (t' := tk) (a := h'.objs.size) (o := .ext (LamP (X.env.qual ++ "<lambda>") params body scope (cloFrom X.env.cells scope.names []) h'.objs.size c')) (h' := h'.push (PySem.W.kla_obj "<lambda>" (X.env.qual ++ "<lambda>") params body scope (cloFrom X.env.cells scope.names []) ((X.mg "__name__").getD .none) c' ctv))
      (fun b o e => Heap.get?_push_of_some _ e) (Nat.le_refl _) (lamP_ok (Heap.get?_push_size _ rfl))
    have hE : ExtN H (upd (upd H P (.tbl (ps ++ #[rawInt pos.line, rawInt pos.col, .ref c']))) c' (CodeO c' (X.env.qual ++ "<lambda>"))) := fun b o e n => by
      rw [upd_ne (ne_of_none e nC), upd_ne (fun z => n ps (Option.some.inj (e.symm.trans (by rw [z]; exact hP))))]
      exact e
    have eL : (ps ++ #[rawInt pos.line, rawInt pos.col, .ref c']).toList = ps.toList ++ [rawInt pos.line, rawInt pos.col, .ref c'] := by simp
    refine h h'.objs.size c' _ _ I1 hE (fun p hp => ?_) (I0.hok.fresh (Nat.le_refl _)) upd_same
    by_cases hb : p.1 = P
    · rw [hu p hp hb, hb]
      refine ⟨_, by rw [upd_ne (ne_of_none hP nC), upd_same], by rw [eL]; exact PySem.TriplesOk_snoc _ _ _ _ ht, fun p' cv hcv => ?_⟩
      rw [eL] at hcv
      rcases among_app _ ht hcv with z | z
      · obtain ⟨c0, e1, e2⟩ := ha p' cv z
        exact ⟨c0, e1, hE _ _ e2 codeO_ne⟩
      · exact ⟨c', z, upd_same⟩
    · obtain ⟨ps', a1, a2, a3⟩ := hT p hp
      refine ⟨ps', by rw [upd_ne (ne_of_none a1 nC), upd_ne hb]; exact a1, a2, fun p' cv hcv => ?_⟩
      obtain ⟨c0, e1, e2⟩ := a3 p' cv hcv
      exact ⟨c0, e1, hE _ _ e2 codeO_ne⟩
  | some cv =>
    obtain ⟨c', e, hco⟩ := ha pos cv hc
    subst e
    refine PySem.W.kla_makeFunctionHit (mg := X.mg) (c := c) (P := P) (ps := ps) (closure_ok hfree) I.ok.glob (I.mod.glob.keeps I.bk) hcode (TB.code.keeps I.bk) hP' ht hc bP fun ctv h' tk hx hsz => ?_
    have I0 : Inv X pins σ H { s with heap := h', toks := tk } := I.kept hx
    have I1 := I0.laid (t' := tk) (a := h'.objs.size) (o := .ext (LamP (X.env.qual ++ "<lambda>") params body scope (cloFrom X.env.cells scope.names []) h'.objs.size c')) (h' := h'.push (PySem.W.kla_obj "<lambda>" (X.env.qual ++ "<lambda>") params body scope (cloFrom X.env.cells scope.names []) ((X.mg "__name__").getD .none) c' ctv))
      (fun b o e => Heap.get?_push_of_some _ e) (Nat.le_refl _) (lamP_ok (Heap.get?_push_size _ rfl))
    exact h h'.objs.size c' H _ I1 (ExtN.refl H) hT (I0.hok.fresh (Nat.le_refl _)) hco
/-- a lambda that is tracked, called by the def that got it -/
theorem pe_actX {CXg : CXT} {Eg : XK} {Ng : List Str} {qg : Str} {sg : Scope} {g f c' : Addr} {cdg : Value} {params : Arguments} {body : Expr} {scope : Scope} {k i : Nat} {a : Str} {pn : List (Addr × Obj)} {xe : Value → Shared → Prop} {W : WX} {E : XK} {tb : L2.TE} {p1 p2 : Pos} {σ₀ : L2.St}
    (I : Inv X pins σ H s) (L : LamS X.env.scope scope) (bind : ∀ pm ctv, bindArgs (PySem.W.kla_fn "<lambda>" (X.env.qual ++ "<lambda>") params body scope (cloFrom X.env.cells scope.names []) pm (.ref c') ctv) ⟨[], []⟩ = pure [])
    (tk : Takes ((cxOf CXg X.prog X.w X.K X.mg X.base Ng qg sg g cdg X.A X.stack s H Eg).tr pn xe) W) (wE : ∀ cls d G, E cls d G → W cls d σ₀ G) (room : Room (k + 1) (X.A.deeper (envOfC qg sg s.heap.objs.size g cdg)))
    (pb : ∀ (A : Around) (outer : List Env) (s : Shared) (H : Hp), A.guards = X.A.guards → Room k (A.deeper (lamEnv X scope s.heap.objs.size f c')) → PE (lamCx X A outer s H E scope f c') body tb)
    (hN : Ng[i]? = some a) (hv : Vis sg a) (hd : (a == ("__debug__" : Str)) = false := by decide) (hcd : (a == ("__classdict__" : Str)) = false := by decide) :
    PE ((cxOf CXg X.prog X.w X.K X.mg X.base Ng qg sg g cdg X.A X.stack s H Eg).tr pn xe) (.Call (.Name a p1) [] [] p2)
      (fun σZ HZ Q => σZ = σ₀ ∧ σZ[i]? = some (some (.ref f)) ∧ (HZ f = some (.ext (LamP (X.env.qual ++ "<lambda>") params body scope (cloFrom X.env.cells scope.names []) f c')) ∧ HZ c' = some (CodeO c' (X.env.qual ++ "<lambda>"))) ∧ tb σ HZ Q) := by
  constructor
  rintro pinsZ sZ σZ HZ Q IZ ⟨e0, slot, ⟨lamH, code⟩, want⟩
  subst e0
  apply wpAny_Call_Name_kw
  refine thn ((pe_var (pos := p1) (i := i) hN hv hd hcd).run pinsZ sZ σZ HZ (fun v G => v = .ref f ∧ G = HZ) IZ ⟨.ref f, slot, rfl, rfl⟩) ?_
  rintro u s1 ⟨w0, G0, I1, rel, ev, eG⟩
  subst ev
  rw [eG] at I1
  obtain rfl : u = Value.ref f := rel
  obtain ⟨⟨pm, ctv, lam⟩, _, _⟩ := I1.hok f _ lamH
  apply PySem.W.callWith_F0 ⟨_, _, _, _, lam⟩
  obtain ⟨⟨oc, vs, t, c1, c2, c3⟩, _, _⟩ := I1.hok c' _ code
  have run : codeAny (model X.prog X.w) (X.A.deeper (envOfC qg sg s.heap.objs.size g cdg)) (.call (.ref f) ⟨[], []⟩) (CR (L2.CX X.prog X.w) (envOfC qg sg s.heap.objs.size g cdg :: X.stack) X.prog X.w HZ s1 Q E) s1 := by
    apply PySem.W.kla_callFunE room.depth lam rfl L.co L.gen rfl ⟨c', oc, vs, t, rfl, c1, c2, c3⟩
    rw [bind pm ctv]
    apply wpAny_pure
    refine wpAny_newFunctionEnv (fun y hy => (L.own y hy).2) (fun y hy => absurd hy (by simp)) (fun h₁ ns sb => ?_) L.kind
    refine ⟨I1.nolimit.fresh _ sb, ?_⟩
    show codeAny _ _ (.expr body (lamEnv X scope s1.heap.objs.size f c')) _ _
    have J : Inv (lamCx X (X.A.deeper (envOfC qg sg s.heap.objs.size g cdg)) (envOfC qg sg s.heap.objs.size g cdg :: X.stack) s1 HZ E scope f c') [] σ HZ { s1 with heap := h₁, toks := s1.toks + ([] : List (Str × Value)).length } :=
      lam_start2 I L I1.env0 room.hd I1.base ns fun b o e => sb.extBut b o (Nat.ne_of_lt (Heap.lt_size e)) (Heap.get?_push_of_some _ e)
    refine PySem.W.kla_codeExpr (wpAny_mono ((pb (X.A.deeper (envOfC qg sg s.heap.objs.size g cdg)) _ s1 HZ rfl (room.deeper _)).run [] _ _ HZ Q J want) ?_ fun e s' q => q)
    rintro v s' ⟨w', G, J', rv, q⟩
    exact ⟨w', G, J'.os, J'.bare, J'.base, J'.hok, rv, q⟩
  apply wpAny_call
  refine codeAny_mono run ?_
  intro r s' res
  cases r with
  | error e => exact tk e s' (XE.of_call I1 (fun cls d G q => wE cls d G q) res)
  | ok fl => cases fl with
    | ret u => exact I1.after res
    | next => exact res.elim
    | brk => exact res.elim
    | cont => exact res.elim
end
/-- as GivesS, with any facts Ks that new objects leave -/
def GivesK (X : Cx) (Ng : List Str) (x : Str) (sg : Scope) (g : Addr) (cdg : Value) (bg : List Stmt) (a : Str) (TT : TTv) : Prop :=
  ∀ (Ks : Hp → Prop) (hKs : ∀ (H : Hp) (p : Addr) (o : HO), Ks H → H p = none → Ks (upd H p o)) (f : Addr) (s : Shared) (H : Hp) (Q : VK) (tl : XK → Hp → VK → Prop),
    (∀ (σ₀ : L2.St) (W : WX) (pn : List (Addr × Obj)) (xe : Value → Shared → Prop) (E : XK) (p1 p2 : Pos), Takes ((Zg X Ng x sg g cdg s H).tr pn xe) W → (∀ cls d G, E cls d G → W cls d σ₀ G) →
      PE ((Zg X Ng x sg g cdg s H).tr pn xe) (.Call (.Name a p1) [] [] p2) fun σ G R => σ = σ₀ ∧ σ[0]? = some (some (.ref f)) ∧ Ks G ∧ tl E G R) →
    Ks H → TT tl H Q → ∃ t, PSs (Zg X Ng x sg g cdg s H).nox bg t ∧ t { nx := fun _ G => Q .non G, rt := Q } (L2.start Ng [.ref f]) H
section
variable {X : Cx}
theorem heard_givesK {x a cg bk er e : Str} {sg : Scope} {g CS : Addr} {cdg : Value} {j1 j2 : Nat} {k1 k2 k3 : Nat} {p1 p2 p3 p4 p5 p6 p7 p8 p9 q1 q2 q3 q4 q5 q6 q7 q8 q9 r1 r2 r3 : Pos}
    (hge : sg.names.lookup e = some .globalImplicit) (hme : X.mg e = some (.ref CS)) (hde : (e == ("__debug__" : Str)) = false) (hc1 : sg.names.lookup cg = some .local) (hc2 : sg.names.lookup bk = some .local) (hc3 : sg.names.lookup er = some .local)
    (nd : [a, cg, bk, er].Nodup)
    (hw : ∀ env : Env, env.scope = sg → swappedStores [.Tuple [.Name cg p1, .Name bk p2] k1 p3] (.Tuple [.Constant .none j1 p4, .Constant .none j2 p5] k2 p6) env = pure none)
    (hs : ∀ env : Env, env.scope = sg → swapsWithSole [.Tuple [.Name cg p1, .Name bk p2] k1 p3] (.Tuple [.Constant .none j1 p4, .Constant .none j2 p5] k2 p6) p7.line env = pure false)
    (hsw : ∀ env : Env, env.scope = sg → swapsWith (.Call (.Name a p9) [] [] q1) (some (.Name bk p8)) q2.line env = pure false) (hsw2 : ∀ env : Env, env.scope = sg → swapsWith (.Name er q5) (some (.Name cg q4)) q6.line env = pure false)
    (d1 : (cg == ("__debug__" : Str)) = false) (d2 : (bk == ("__debug__" : Str)) = false) (d3 : (er == ("__debug__" : Str)) = false) (e1 : (cg == ("__classdict__" : Str)) = false) (e2 : (bk == ("__classdict__" : Str)) = false) (e3 : (er == ("__classdict__" : Str)) = false) : GivesK X [a, cg, bk, er] x sg g cdg
      [.Assign [.Tuple [.Name cg p1, .Name bk p2] k1 p3] (.Tuple [.Constant .none j1 p4, .Constant .none j2 p5] k2 p6) p7,
       .Try [.Assign [.Name bk p8] (.Call (.Name a p9) [] [] q1) q2] [.ExceptHandler (some (.Name e q3)) (some er) [.Assign [.Name cg q4] (.Name er q5) q6] q7] [] [] q8,
       .Return (some (.Tuple [.Name cg q9, .Name bk r1] k3 r2)) r3] a (THeard X.K CS) := by
  intro Ks hKs f s H Q tl act hc h
  let Z := (Zg X [a, cg, bk, er] x sg g cdg s H).nox
  have es : Z.env.scope = sg := rfl
  have hgl : Gl Z e := hge
  refine ⟨_, pss_cons (ps_asg (X := Z) (pe_tup (pa_cons pe_non (pa_cons pe_non pa_nil))) (pg_tup rfl (pgs_cons (pg_name (i := 1) nd rfl (.inl hc1) (.inr hc1)) (pgs_cons (pg_name (i := 2) nd rfl (.inl hc2) (.inr hc2)) pgs_nil))) (hs _ es) (hw _ es))
    (pss_cons (ps_keep (X := Z) (i := 3) (c := .ref CS) (Wo := fun _ _ _ _ => False) (ts := fun _ _ _ => tAsg (tVar 3) (gName 1))
      (tb := fun W D σ H => ∃ Ech : XK, (∀ cls d G, Ech cls d G → W cls d σ G) ∧ σ[0]? = some (some (.ref f)) ∧ Ks H ∧ ∃ R, tl Ech H R ∧ ∀ v G, R v G → D.nx (σ.set 2 (some v)) G)
      rfl rfl rfl nd rfl hc3 ⟨hgl, hde, .inl hme⟩ L2.takes0 (fun W pn xe tk _ => ?_) (fun a oe cls d pn _ _ => pss_one (ps_set nd rfl (.inl hc1) (pe_var rfl (.inl hc3) d3 e3) (hsw2 _ es) (.inr hc1))))
    (pss_one (ps_ret (pe_tup (pa_cons (pe_var (i := 1) rfl (.inl hc1) d1 e1) (pa_cons (pe_var (i := 2) rfl (.inl hc2) d2 e2) pa_nil)))))), ?_⟩
  · constructor
    rintro pins s' σ G D I ⟨Ech, hW, h1, h2, R, h3, h4⟩
    have one := act σ W pn xe Ech p9 q1 tk hW
    have two := pss_one (ps_set (i := 2) (pos := q2) (pos' := p8) nd rfl (.inl hc2) (PE.up one) (hsw _ es) (.inr hc2))
    exact two.run pins s' σ G D I ⟨R, ⟨rfl, h1, h2, h3⟩, h4⟩
  · refine ⟨by show 2 ≤ sizeLine; rw [sizeLine_eq]; omega, fun p0 hp0 => ?_⟩
    have hc0 : Ks (upd H p0 (.tup [.non, .non])) := hKs _ _ _ hc hp0
    refine ⟨p0, [.non, .non], rfl, .inl (.inl upd_same), rfl, ?_⟩
    refine ⟨.non, [.non], rfl, .non, [], rfl, rfl, ?_⟩
    refine ⟨fun cls d G => PySem.W.exmOne X.K cls (.ref CS) = some true ∧ ∀ a, G a = none → ∀ p, clm cls d a G p = none → Q (.ref p) (upd (clm cls d a G) p (.tup [.ref a, .non])), ?_, rfl, hc0, ?_⟩
    · rintro cls d G ⟨b1, b2⟩
      refine ⟨true, b1, fun z => (Bool.noConfusion z), fun _ b hb => ?_⟩
      refine ⟨.ref b, rfl, ?_⟩
      refine ⟨.ref b, rfl, .non, rfl, ?_⟩
      refine ⟨by show 2 ≤ sizeLine; rw [sizeLine_eq]; omega, fun p hp => b2 b hb p hp⟩
    · refine ⟨_, h p0 hp0, fun v G hv => ?_⟩
      refine ⟨.non, rfl, ?_⟩
      refine ⟨v, rfl, ?_⟩
      refine ⟨by show 2 ≤ sizeLine; rw [sizeLine_eq]; omega, fun p hp => hv p hp⟩
end
section
variable {X : Cx}
/-- x(y), x such a def, y a lambda that is tracked -/
theorem pe_lamV {TT : TTv} {x a y : Str} {g : Addr} {k j : Nat} {pg : Arguments} {bg : List Stmt} {sg : Scope} {dV kV doc pm cdv ct oc : Value} {an od : Option Addr} {osl : Array (Option Value)} {Ng : List Str}
    {params : Arguments} {body : Expr} {scope : Scope} {t : XK → L2.TE} {p ypos pos : Pos}
    (gl : Gl X x) (m : X.mg x = some (.ref g)) (kp : PySem.W.keepIn X.K (.ref g) = true) (lk : X.K.lookup g = some ⟨oc, od, .func (PySem.W.fnOf x x pg bg sg dV kV doc pm an cdv ct), osl⟩) (hcd : PySem.W.codeIn X.K cdv x = true)
    (bi : L2.Binds X.K (PySem.W.fnOf x x pg bg sg dV kV doc pm an cdv ct) [a] []) (S : FnScope Ng [a] sg) (N0 : Ng[0]? = some a) (vis : Vis sg a) (give : GivesK X Ng x sg g cdv bg a TT)
    (room : Room (k + 2) X.A) (L : LamS X.env.scope scope)
    (noarg : ∀ (q : Str) (cl : List (Str × Addr)) (pm cv ctv : Value), bindArgs (PySem.W.kla_fn "<lambda>" q params body scope cl pm cv ctv) ⟨[], []⟩ = pure [])
    (inner : ∀ (A : Around) (outer : List Env) (s : Shared) (H : Hp) (E : XK) (f c' : Addr), A.guards = X.A.guards → Room k (A.deeper (lamEnv X scope s.heap.objs.size f c')) → PE (lamCx X A outer s H E scope f c') body (t E))
    (hN : X.N[j]? = some y) (hv : Vis X.env.scope y) (hd : (y == ("__debug__" : Str)) = false) (hcdy : (y == ("__classdict__" : Str)) = false) (hs : starEach [.Name y ypos] X.env = (false, eval (.Name y ypos) X.env) :: starEach [] X.env)
    (n1 : (x == ("__debug__" : Str)) = false := by decide) (n2 : (a == ("__debug__" : Str)) = false := by decide) (n3 : (a == ("__classdict__" : Str)) = false := by decide) :
    PE X (.Call (.Name x p) [.Name y ypos] [] pos) fun σ H Q => ∃ f c' : Addr, σ[j]? = some (some (.ref f)) ∧ H f = some (.ext (LamP (X.env.qual ++ "<lambda>") params body scope (cloFrom X.env.cells scope.names []) f c')) ∧ H c' = some (CodeO c' (X.env.qual ++ "<lambda>")) ∧ TT (fun E G R => t E σ G R) H Q := by
  constructor
  rintro pins s σ H Q I ⟨f, c', slot, lamH, code, nxt⟩
  apply wpAny_Call_Name_kw
  refine ld_glob I gl m ?_ n1
  refine PySem.W.callWith_K (h₀ := X.base) I.ok.mod.kin kp ?_ (by rw [hs]) (by rfl)
  rw [hs]
  show wpAny _ _ (spliced ((false, eval (.Name y ypos) X.env) :: backTo pos (starEach [] X.env))) _ _ s
  apply Calls.spliced_cons
  refine thn ((pe_var (pos := ypos) hN hv hd hcdy).run pins s σ H (fun v G => v = .ref f ∧ G = H) I ⟨.ref f, slot, rfl, rfl⟩) ?_
  rintro u s' ⟨w0, G0, I1, rel, e1, e2⟩
  subst e1
  rw [e2] at I1
  obtain rfl : u = Value.ref f := rel
  refine Calls.spliced_nil ⟨I1.kIn, ?_⟩
  have run : codeAny (model X.prog X.w) X.A (.call (.ref g) ⟨[.ref f], []⟩) (CR C8.CX0 X.stack X.prog X.w H s' Q C8.E0) s' := by
    refine run_ofS (N := Ng) (ps := [a]) (us := [.ref f]) (vs := [.ref f]) lk hcd S room I1.env0 (bi s' [.ref f] I1.kIn rfl) (.cons rfl .nil) rfl ?_
    intro room'
    obtain ⟨u, hu, hq⟩ := give (fun G => G f = some (.ext (LamP (X.env.qual ++ "<lambda>") params body scope (cloFrom X.env.cells scope.names []) f c')) ∧ G c' = some (CodeO c' (X.env.qual ++ "<lambda>")))
      (fun H p o hk hn => ⟨by rw [upd_ne (ne_of_none hk.1 hn)]; exact hk.1, by rw [upd_ne (ne_of_none hk.2 hn)]; exact hk.2⟩) f s' H Q (fun E G R => t E σ G R) (fun σ₀ W pn xe E p1 p2 tk wE =>
      pe_actX (i := 0) (CXg := C8.CX0) (Eg := C8.E0) I1 L (fun pm ctv => noarg _ _ _ _ _) tk wE room' (fun A outer s H gA r2 => inner A outer s H E f c' gA r2) N0 vis n2 n3) ⟨lamH, code⟩ nxt
    exact ⟨u, hu.nox, hq⟩
  apply wpAny_call
  refine codeAny_mono run ?_
  intro r s2 q
  match r, q with
  | .error _, q => exact (show False from q).elim
  | .ok (.ret u), q => exact I1.after q
  | .ok .next, q => exact q.elim
  | .ok .brk, q => exact q.elim
  | .ok .cont, q => exact q.elim
end
end DL

set_option maxHeartbeats 4000000
/-! DY3: lambdas as data; exact tuples; dict(a tuple of pairs). -/
namespace DL
open PySem PySem.Spec L2 LamX
open PyProof.Rows hiding St

theorem ext_codeO_lam {q q2 : Str} {c f c2 : Addr} {ps : Arguments} {b : Expr} {sc : Scope} {cl : List (Str × Addr)} (n : Array Value) : HO.ext (LamP q ps b sc cl f c2) ≠ .tbl n := fun z => by cases z
section
variable {K : PySem.W.Frag} {T : TT8} {F : Hp} {M : Mp} {H H1 : Hp}
/-- a code object is held fast from here on -/
theorem RelR.code (R : RelR K F M H) (e : ExtN H H1) (t : Tabs T H → Tabs T H1) {c : Addr} {q : Str} (hc : H1 c = some (CodeO c q)) : StpR K T F M H (upd F c (CodeO c q)) M H1 := by
  have R1 := R.ext (T := T) e t
  have mc : M c = none := by
    cases z : M c with
    | none => rfl
    | some m =>
      obtain ⟨_, o, h1, r⟩ := R1.rel.mt c m z
      rw [hc] at h1
      cases h1
      unfold CodeO at r
      cases m <;> exact r.elim
  have sm : Same F (upd F c (CodeO c q)) := fun b u z => by
    by_cases hb : b = c
    · subst hb
      have := R1.rel.sub _ _ z
      rw [hc] at this
      rw [upd_same, this]
    · rw [upd_ne hb]; exact z
  refine ⟨sm, ⟨fun b u z => ?_, fun a m z => ?_, fun a ps z => ?_⟩, fun a o h f m n => ?_, t⟩
  · by_cases hb : b = c
    · subst hb
      rw [upd_same] at z
      rw [← z]; exact hc
    · rw [upd_ne hb] at z
      exact R1.rel.sub _ _ z
  · have ne : a ≠ c := fun w => by rw [w, mc] at z; cases z
    obtain ⟨f, o, h1, r⟩ := R1.rel.mt a m z
    exact ⟨by rw [upd_ne ne]; exact f, o, h1, r.mono sm⟩
  · by_cases hb : a = c
    · subst hb
      rw [upd_same] at z
      exact codeO_ne ps (Option.some.inj z)
    · rw [upd_ne hb] at z
      exact R.nt a ps z
  · obtain ⟨h1, f1, m1⟩ := R1.fr a o h f m n
    refine ⟨h1, ?_, m1⟩
    by_cases hb : a = c
    · subst hb
      rw [hc] at h1
      cases h1
      exact .inr ⟨⟨_, _, rfl⟩, upd_same⟩
    · rw [upd_ne hb]
      exact .inl f
end
section
variable {X : Cx} {Y : KJ X.K}
/-- lambda: e, as a value -/
theorem de_lamX {c P : Addr} {params : Arguments} {body : Expr} {scope : Scope} {pos : Pos} (tb : TabB X.base X.mg c P) (cod : X.env.code = .ref c) (inT : (P, X.env.qual ++ "<lambda>") ∈ Y.T) (onlyT : ∀ p ∈ Y.T, p.1 = P → p.2 = X.env.qual ++ "<lambda>") (xt : XT Y) (L : LamS X.env.scope scope)
    (nodef : defaultsOf params X.env = ([], []) := by rfl) : DE X Y (.Lambda params body scope pos) (dC (.lam (X.env.qual ++ "<lambda>") (LamP (X.env.qual ++ "<lambda>") params body scope (cloFrom X.env.cells scope.names [])))) := by
  constructor
  rintro pins s σ H Q0 I ⟨F, M, ρ, Q, rs, r, q, kk⟩
  apply lam_makeX I tb cod inT onlyT (xt.tabs _ _ _ r.j) nodef (L.has I.ok)
  intro f c' H1 s' I1 eN T1 hf hco
  have s1 := r.r.code eN (fun _ => T1) hco
  have s2 := RelR.newF (T := Y.T) s1.rel hf (.ext (LamP (X.env.qual ++ "<lambda>") params body scope (cloFrom X.env.cells scope.names []) f c')) (fun ps z => by cases z)
  refine ⟨.ref f, _, I1, rfl, kk (.ref f) _ _ M _ (Stp.of r (s1.trans s2)) (.lam upd_same ?_) q⟩
  have ne : c' ≠ f := fun w => by rw [← w, hco] at hf; cases hf
  rw [upd_ne ne, upd_same]
def dHeardV (ok : Str → Prop) (j : Nat) (q : Str) (P : Addr → Addr → Heap → Prop) (td : DXK → DTE) : DTE := fun ρ M Q => ρ[j]? = some (some (.lam q P)) ∧ dHeard ok td ρ M Q
/-- one of several lambdas -/
def dHeardVs (ok : Str → Prop) (j : Nat) : List (Str × (Addr → Addr → Heap → Prop) × (DXK → DTE)) → DTE
  | [] => fun _ _ _ => False
  | c :: cs => fun ρ M Q => dHeardV ok j c.1 c.2.1 c.2.2 ρ M Q ∨ dHeardVs ok j cs ρ M Q
theorem de_either {e : Expr} {t u : DTE} (h1 : DE X Y e t) (h2 : DE X Y e u) : DE X Y e (fun ρ M Q => t ρ M Q ∨ u ρ M Q) := by
  constructor
  rintro pins s σ H Q0 I ⟨F, M, ρ, Q, rs, r, q | q, kk⟩
  · exact h1.run pins s σ H Q0 I ⟨F, M, ρ, Q, rs, r, q, kk⟩
  · exact h2.run pins s σ H Q0 I ⟨F, M, ρ, Q, rs, r, q, kk⟩
theorem de_no {e : Expr} : DE X Y e (fun _ _ _ => False) := ⟨fun _ _ _ _ _ _ ⟨_, _, _, _, _, _, q, _⟩ => q.elim⟩
theorem de_heardV {x a y : Str} {st : Stmt} {Ng : List Str} {CS : Addr} {k j : Nat} {params : Arguments} {body : Expr} {scope : Scope} {td : DXK → DTE} {ok : Str → Prop} {p ypos pos : Pos}
    (D : Has X.K X.mg x x st [a] []) (S : FnScope Ng [a] (defScope st)) (give : ∀ (g : Addr) (cdv : Value), GivesK X Ng x (defScope st) g cdv (defBody st) a (THeard X.K CS))
    (sub : ∀ n C, ok n → PySem.W.nsIn X.K mainGlobals n = some (some (.ref C)) → PySem.W.exmOne X.K (.ref C) (.ref CS) = some true) (hr : Room (k + 2) X.A) (gu : X.A.guards = some []) (xt : XT Y) (L : LamS X.env.scope scope)
    (inner : ∀ (A : Around) (outer : List Env) (s : Shared) (H : Hp) (E : XK) (f c' : Addr) (Y' : KJ X.K) (E1 : DXK), Y'.T = Y.T → Room k (A.deeper (lamEnv X scope s.heap.objs.size f c')) → (A.deeper (lamEnv X scope s.heap.objs.size f c')).guards = some [] →
      XG (lamCx X A outer s H E scope f c') Y' E1 → DE (lamCx X A outer s H E scope f c') Y' body (td E1))
    (noarg : ∀ (q : Str) (cl : List (Str × Addr)) (pm cv ctv : Value), bindArgs (PySem.W.kla_fn "<lambda>" q params body scope cl pm cv ctv) ⟨[], []⟩ = pure [] := by intros; rfl)
    (hN : X.N[j]? = some y := by rfl) (hv : Vis X.env.scope y := by first | exact Or.inl rfl | exact Or.inr (Or.inl rfl) | exact Or.inr (Or.inr rfl)) (hd : (y == ("__debug__" : Str)) = false := by decide) (hcdy : (y == ("__classdict__" : Str)) = false := by decide) (hs : starEach [.Name y ypos] X.env = (false, eval (.Name y ypos) X.env) :: starEach [] X.env := by rfl)
    (gl : Gl X x := by rfl) (N0 : Ng[0]? = some a := by rfl) (vis : Vis (defScope st) a := by first | exact Or.inl rfl | exact Or.inr (Or.inl rfl))
    (n1 : (x == ("__debug__" : Str)) = false := by decide) (n2 : (a == ("__debug__" : Str)) = false := by decide) (n3 : (a == ("__classdict__" : Str)) = false := by decide) :
    DE X Y (.Call (.Name x p) [.Name y ypos] [] pos) (dHeardV ok j (X.env.qual ++ "<lambda>") (LamP (X.env.qual ++ "<lambda>") params body scope (cloFrom X.env.cells scope.names [])) td) := by
  obtain ⟨g, oc, od, dV, kV, doc, pm, an, cdv, ct, osl, us, dvs, lk, hcd, kp, m, bi, vd, rd⟩ := D.ex
  have u0 : us = [] ∧ dvs = [] := by
    have := rd (fun _ => none)
    cases this
    cases vd
    exact ⟨rfl, rfl⟩
  obtain ⟨rfl, rfl⟩ := u0
  refine PE.weak (pe_lamV (TT := THeard X.K CS) (k := k) (t := fun E0 σ G R => ∃ (Y' : KJ X.K) (E1 : DXK), Y'.T = Y.T ∧ (∀ F M H, Y'.J F M H → Tabs Y'.T H) ∧ (∀ F M H x v cls d, Rel Y' F M H → ExR X.K F x v cls d → E1 x v M → E0 cls d H) ∧ canE Y' (td E1) σ G R)
    gl m kp lk hcd bi S N0 vis (give g cdv) hr L noarg ?_ hN hv hd hcdy hs n1 n2 n3) ?_
  · intro A outer s H E f c' gA r
    constructor
    rintro pins s1 σ H1 Q I ⟨Y', E1, eT, tabs, wish, can⟩
    exact (inner A outer s H E f c' Y' E1 eT r (gA.trans gu) ⟨tabs, _, takes_of rfl rfl rfl rfl, fun σ F M H x v cls d R e z => wish F M H x v cls d R e z⟩).run pins s1 σ H1 Q I can
  · rintro σ H Q0 ⟨F, M, ρ, Q, rs, r, ⟨sl, q⟩, kk⟩
    obtain ⟨vf, hs1, hs2⟩ := rs.2 j _ sl
    cases hs2 with
    | @lam f c' _ _ fe fc =>
    refine ⟨f, c', hs1, r.sub _ _ fe, r.sub _ _ fc, ?_⟩
    have st : StpR X.K Y.T F M H F M H := StpR.refl r.r
    intro p0 hp0
    have sp := RelR.newF (T := Y.T) st.rel hp0 (.tup [.non, .non]) (fun ps w => by cases w)
    have st := st.trans sp
    have r1 : Rel (fromY Y (upd F p0 (.tup [.non, .non])) M (upd H p0 (.tup [.non, .non]))) (upd F p0 (.tup [.non, .non])) M (upd H p0 (.tup [.non, .non])) := ⟨st.rel, StpR.refl st.rel, Y.cl r.j st⟩
    refine ⟨fromY Y (upd F p0 (.tup [.non, .non])) M (upd H p0 (.tup [.non, .non])), fun x v M1 => ok x ∧ Q (.tup [.exc x v, .non]) M1, rfl, fun F M H j => xt.tabs _ _ _ j.2, ?_, _, M, ρ, _, rs.mono sp.same, r1, q, ?_⟩
    · rintro F2 M2 H2 n v cls d R2 ⟨C, dx, u, en, rfl, rfl, ed, ru⟩ ⟨okn, z⟩
      refine ⟨sub n C okn en, fun a ha p hp => ?_⟩
      rw [clm_of] at hp ⊢
      have s1 := RelR.newF (T := Y.T) R2.r ha (ExK C dx a) exK_tbl
      have s2 := RelR.newF (T := Y.T) s1.rel hp (.tup [.ref a, .non]) (fun ps w => by cases w)
      have ne : a ≠ p := fun w => by rw [w, upd_same] at hp; cases hp
      have nd : dx ≠ a := fun w => by rw [w, R2.r.fnone ha] at ed; cases ed
      refine kk (.ref p) (.tup [.exc n v, .non]) _ _ _ (Stp.of r ((st.trans R2.j.1).trans (s1.trans s2))) (.tup (.inl (.inl upd_same)) (.cons (.exc (dx := dx) en ?_ ?_ (ru.mono (s1.same.trans s2.same))) (.cons .non .nil))) z
      · exact s2.same _ _ upd_same
      · exact s2.same _ _ (s1.same _ _ ed)
    · intro v d F2 M2 H2 s2 rp q2 p hp
      have s3 := RelR.newF (T := Y.T) s2.rel.r hp (.tup [.non, v]) (fun ps w => by cases w)
      exact kk (.ref p) (.tup [.non, d]) _ _ _ (Stp.of r ((st.trans s2.s).trans s3)) (.tup (.inl (.inl upd_same)) (.cons .non (.cons (rp.mono s3.same) .nil))) q2
end
/-! ### exact tuples -/
section
variable {X : Cx} {Y : KJ X.K} {pos p : Pos} {es : List Expr} {e : Expr} {t : DTE}
def dTupX (t : DTA) : DTE := fun ρ M Q => t ρ M fun ds M1 => ds.length ≤ sizeLine ∧ Q (.tupx ds) M1
theorem de_tupX {u : DTA} {x1} (h : DA X Y es u) : DE X Y (.Tuple es x1 pos) (dTupX u) := by
  constructor
  rintro pins s σ H Q0 I ⟨F, M, ρ, Q, rs, rl, q, k⟩
  refine wpAny_Tuple_spliced (thn (h.run pos pins s σ H (fun xs H1 => xs.length ≤ sizeLine ∧ ∀ (o : Obj) p, o.dict = none → H1 p = none → Q0 (.ref p) (upd H1 p (.frz o (.tup xs)))) I ⟨F, M, ρ, _, rs, rl, q, ?_⟩) fun us s1 ⟨xs, H1, I1, r, z, q⟩ => ⟨by rw [← r.length]; exact z, ?_⟩)
  · intro vs ds F1 M1 H1 s1 rp ⟨z, q1⟩
    refine ⟨by rw [rp.length]; exact z, fun o p ho hp => ?_⟩
    have s2 := s1.rel.newF hp (.frz o (.tup vs)) (fun _ z => nomatch z)
    exact k (.ref p) (.tupx ds) _ _ _ (s1.trans s2) (.tupx upd_same ho (rp.mono s2.same)) q1
  · have hf : H1 s1.heap.objs.size = none := I1.hok.fresh (Nat.le_refl _)
    refine ⟨.ref s1.heap.objs.size, _, I1.laid (t' := s1.toks) (o := .frz { cls := .type "tuple", data := .seq us.toArray } (.tup xs)) (fun b u e => Heap.get?_push_of_some _ e) (Nat.le_refl _) ?_, rfl, q _ _ rfl hf⟩
    exact ⟨Heap.get?_push_size _ rfl, z, us, r, ⟨_, Heap.get?_push_size _ rfl, rfl, _, rfl⟩⟩
end
end DL

set_option maxHeartbeats 4000000
/-! DY4: exact tuples put together; dict(an exact tuple of pairs); such dicts asked. -/
namespace DL
open PySem PySem.Spec L2 LamX
open PyProof.Rows hiding St

section
variable {X : Cx} {Y : KJ X.K} {pos p : Pos} {a b e : Expr} {t u : DTE}
def rAddX (fz : Bool) : RD2 := fun x y M Q => (∃ xs ys, x = .tupx xs ∧ y = .tupx ys ∧ xs.length + ys.length ≤ sizeLine ∧ Q (.tupx (xs ++ ys)) M) ∨ rAddD fz x y M Q
theorem od_addX (fz : Bool) : OpD X Y (binaryOp .Add) (rAddX fz) := by
  rintro pins s σ H x y v u Q0 I rx ry ⟨F, M, d, e, Q, r1, r2, rl, ⟨xs, ys, e1, e2, hz, q⟩ | q, k⟩
  · subst e1 e2
    cases r1 with
    | @tupx a1 o1 vs _ f1 n1 ra =>
    cases r2 with
    | @tupx a2 o2 ws _ f2 n2 rb =>
    cases rx
    cases ry
    obtain ⟨its, v1, p1, _⟩ := I.tuple (a := a1) (xs := vs) (.inl (.inr ⟨_, rl.sub _ _ f1⟩))
    obtain ⟨its2, v2, p2, _⟩ := I.tuple (a := a2) (xs := ws) (.inl (.inr ⟨_, rl.sub _ _ f2⟩))
    have l1 := v1.length
    have l2 := v2.length
    have l3 := ra.length
    have l4 := rb.length
    by_cases hx : vs = []
    · subst hx
      cases ra
      cases v1
      exact cat_tup0 p1 p2 ⟨.ref a2, H, I, rfl, k _ _ F M H (Stp.refl rl) (.tupx f2 n2 rb) q⟩
    · refine HT.cat_tup p1 p2 (fun z => hx (v1.nil_iff.mp z)) (fun z => ?_) (fun z => ?_) (by omega)
      · have : ws = [] := v2.nil_iff.mp z
        subst this
        cases rb
        rw [List.append_nil] at q
        exact ⟨.ref a1, H, I, rfl, k _ _ F M H (Stp.refl rl) (.tupx f1 n1 ra) q⟩
      · have hf : H s.heap.objs.size = none := I.hok.fresh (Nat.le_refl _)
        have s2 := rl.newF hf (.frz { cls := .type "tuple", data := .seq (its ++ its2).toArray } (.tup (vs ++ ws))) (fun _ z => nomatch z)
        refine ⟨.ref s.heap.objs.size, _, I.laid (t' := s.toks) (o := .frz { cls := .type "tuple", data := .seq (its ++ its2).toArray } (.tup (vs ++ ws))) (fun b ob q => Heap.get?_push_of_some _ q) (Nat.le_refl _) ?_, rfl,
          k _ _ _ M _ s2 (.tupx upd_same rfl ((ra.append rb).mono s2.same)) q⟩
        exact ⟨Heap.get?_push_size _ rfl, by rw [List.length_append]; omega, _, v1.append v2, IsTup.new _ _⟩
  · exact od_add fz pins s σ H x y v u Q0 I rx ry ⟨F, M, d, e, Q, r1, r2, rl, q, k⟩
/-! ### dict(pairs) -/
def pairD : DL.D → Option ((Int ⊕ Str) × DL.D)
  | .tup [k, v] => (keyD k).map fun j => (j, v)
  | .tupx [k, v] => (keyD k).map fun j => (j, v)
  | _ => none
def pairsD : List DL.D → Option (List ((Int ⊕ Str) × DL.D))
  | [] => some []
  | d :: ds => match pairD d, pairsD ds with
    | some p, some ps => some (p :: ps)
    | _, _ => none
theorem mergeK_new : ∀ (more acc : List (Key × V)), ((acc ++ more).map (·.1)).Nodup → mergeK acc more = acc ++ more
  | [], acc, _ => by simp [mergeK]
  | p :: more, acc, nd => by
    have no : ¬ (acc.any fun kv => decide (kv.1 = p.1)) = true := by
      intro z
      obtain ⟨q, hq, e⟩ := List.any_eq_true.mp z
      rw [List.map_append, List.nodup_append] at nd
      exact nd.2.2 q.1 (List.mem_map.mpr ⟨q, hq, rfl⟩) p.1 (by simp) (of_decide_eq_true e)
    have e : mergeK acc (p :: more) = mergeK (acc ++ [p]) more := by
      show more.foldl _ (putK acc p.1 p.2) = _
      unfold putK
      rw [if_neg no]
      rfl
    rw [e, mergeK_new more (acc ++ [p]) (by simpa using nd)]
    simp
theorem pairs_heap {pins : List (Addr × Obj)} {σ : St} {H : Hp} {s : Shared} (I : Inv X pins σ H s) {F : Hp} (sub : Same F H) : ∀ {vs : List V} {ds : List DL.D} {its : List Value} {kvs : List ((Int ⊕ Str) × DL.D)}, RpAll X.K F vs ds → Vals vs its → pairsD ds = some kvs →
    ∃ (ts : List Addr) (ps : List (Value × Value)) (ks : List (Key × V)), its = ts.map Value.ref ∧ ts.length = ps.length ∧ KV ks (List.zipWith (fun k p => (k, p.2)) (kvs.map (·.1)) ps) ∧ ks.length = ps.length ∧ ks.map (·.1) = kvs.map (·.1) ∧ RpAll X.K F (ks.map (·.2)) (kvs.map (·.2)) ∧
      ∀ (j : Nat) (k v : Value), ps[j]? = some (k, v) → ∃ (tj : Addr) (kj : Key), ts[j]? = some tj ∧ s.heap.IsTuple tj #[k, v] ∧ (List.zipWith (fun k p => (k, p.2)) (kvs.map (·.1)) ps)[j]? = some (kj, v) ∧ (mixKind X.prog X.w).is kj k = true
  | _, [], its, kvs, .nil, rv, e => by
    cases rv
    cases e
    exact ⟨[], [], [], rfl, rfl, .nil, rfl, rfl, .nil, fun j k v h => by simp at h⟩
  | _, d :: ds, its, kvs, .cons r t, rv, e => by
    cases rv with
    | cons r1 r2 =>
    rename_i v0 vs0 u0 us0
    simp only [pairsD] at e
    split at e
    · rename_i p ps0 e1 e2
      cases e
      obtain ⟨ts, ps, ks, h1, h2, h3, h4, h5, h6, h7⟩ := pairs_heap I sub t r2 e2
      have get : ∃ (tj : Addr) (kd vd : DL.D) (vk vv : V), v0 = V.ref tj ∧ SqT X.K H tj [vk, vv] ∧ Rp X.K F vk kd ∧ Rp X.K F vv vd ∧ (keyD kd).map (fun j => (j, vd)) = some p := by
        unfold pairD at e1
        split at e1
        · cases r with
          | tup sq ra =>
            cases ra with
            | cons a1 ra =>
              cases ra with
              | cons a2 ra =>
                cases ra
                exact ⟨_, _, _, _, _, rfl, Same.tseq sub sq, a1, a2, e1⟩
        · cases r with
          | tupx fr _ ra =>
            cases ra with
            | cons a1 ra =>
              cases ra with
              | cons a2 ra =>
                cases ra
                exact ⟨_, _, _, _, _, rfl, .inl (.inr ⟨_, sub _ _ fr⟩), a1, a2, e1⟩
        · cases e1
      obtain ⟨tj, kd, vd, vk, vv, rfl, sq, rk, rvv, ep⟩ := get
      cases hk : keyD kd with
      | none => rw [hk] at ep; cases ep
      | some kj =>
        rw [hk] at ep
        cases ep
        cases r1
        obtain ⟨its2, rv2, pt, _⟩ := I.tuple sq
        obtain ⟨u1, u2, rfl, q1, q2⟩ := vals2 rv2
        have evk : vk = kV kj := keyD_rp rk hk
        rw [evk] at q1
        refine ⟨tj :: ts, (u1, u2) :: ps, (kj, vv) :: ks, by rw [h1]; rfl, by simp [h2], .cons ⟨rfl, q2⟩ h3, by simp [h4], by simp [h5], .cons rvv h6, fun j k v hj => ?_⟩
        cases j with
        | zero =>
          simp at hj
          obtain ⟨rfl, rfl⟩ := hj
          exact ⟨tj, kj, rfl, pt, rfl, kV_is q1⟩
        | succ j =>
          obtain ⟨tj', kj', w1, w2, w3, w4⟩ := h7 j k v (by simpa using hj)
          exact ⟨tj', kj', by simpa using w1, w2, by simpa using w3, w4⟩
    · cases e
def rDictT : RDL := fun ds M Q => ∃ (xs : List DL.D) (kvs : List ((Int ⊕ Str) × DL.D)), ds = [.tupx xs] ∧ pairsD xs = some kvs ∧ (kvs.map (·.1)).Nodup ∧ Q (.dct (kvs.map (·.1)) (kvs.map (·.2))) M
theorem cd_dictT (hc : X.calm = true) : CallD X Y (.type "dict") rDictT := by
  intro pins s σ H vs us Q0 I r ⟨F, M, ds, Q, rp, rl, ⟨xs, kvs, e, e1, nd, q⟩, k⟩
  subst e
  obtain ⟨v, rfl, r1⟩ := rp1 rp
  cases r1 with
  | @tupx a o ws _ fr dn ra =>
  obtain ⟨ho, hlen, its, rv, hT⟩ := (show ObjOk X.prog X.w H s.heap a (.frz o (.tup ws)) from I.hok a _ (rl.sub _ _ fr))
  obtain ⟨o', ho', hc', n, hd⟩ := hT
  rw [ho] at ho'
  cases ho'
  obtain ⟨ts, ps, ks, h1, h2, h3, h4, h5, h6, h7⟩ := pairs_heap I rl.sub ra rv e1
  subst h1
  rw [Vals.ref1 r]
  have lw := rv.length
  rw [List.length_map] at lw
  have hm : (s.heap.objs.size == sysModules) = false := beq_eq_false_iff_ne.mpr (Nat.ne_of_gt I.big)
  have lk : (kvs.map (·.1)).length = ps.length := by rw [← h5, List.length_map, h4]
  refine PySem.call_dict_pairs (knd := mixKind X.prog X.w) (kvs := List.zipWith (fun k p => (k, p.2)) (kvs.map (·.1)) ps) (PySem.PairArg.tuple a (ts.map Value.ref).toArray (fun j => ts.getD j 0) ps) (I.ok.hd hc)
    ⟨⟨o, n, ho, hc', dn, by simpa using hd⟩, by simp [h2], fun j k v hj => ?_⟩ ⟨by simp [lk], fun i key v hi => ?_⟩ (by omega) fun h' tk hd' hk => ?_
  · obtain ⟨tj, kj, w1, w2, _, _⟩ := h7 j k v hj
    refine ⟨by simp [List.getElem?_map, w1, List.getD_eq_getElem?_getD], .inl ?_⟩
    show s.heap.IsTuple (ts.getD j 0) #[k, v]
    rw [List.getD_eq_getElem?_getD, w1]
    exact w2
  · obtain ⟨tj, kj, w1, w2, w3, w4⟩ := h7 i key v hi
    exact ⟨kj, w3, w4⟩
  · have hf : H s.heap.objs.size = none := I.hok.fresh (Nat.le_refl _)
    have em : mergeK [] ks = ks := by
      have := mergeK_new ks [] (by simpa [h5] using nd)
      simpa using this
    have s2 := rl.newF hf (.dK ks) (fun _ z => nomatch z)
    have ez : (kvs.map (·.1)).zip (ks.map (·.2)) = ks := by
      rw [← h5]
      clear h3 h4 h5 h6 nd lk em s2
      induction ks with
      | nil => rfl
      | cons a l ih => simp [ih]
    refine ⟨.ref s.heap.objs.size, upd H s.heap.objs.size (.dK ks), I.laid (t' := tk) (fun b o e => hk b o (by simp) e) (Nat.le_refl _) ?_, rfl, k _ _ _ M _ s2 (.dct (ks := kvs.map (·.1)) (xs := ks.map (·.2)) (by rw [ez]; exact upd_same) (by rw [lk, List.length_map, h4]) (h6.mono s2.same)) q⟩
    refine ⟨by omega, hm, _, ?_, hd'⟩
    have := KV.merge (kvs := []) (vs := []) h3 .nil
    rw [em] at this
    exact this
end
end DL

set_option maxHeartbeats 4000000
/-! DY5: zip of three tuples of one length; dicts of data asked; sorted(such a dict). -/
namespace DL
open PySem PySem.Spec L2 LamX
open PyProof.Rows hiding St

section
variable {elts : List Expr} {kk : Nat} {tpos : Pos}
def Itz3 (K : PySem.W.Frag) (a b c : Addr) (xs ys zs : List V) : It := ⟨fun i H => SqT K H a xs ∧ SqT K H b ys ∧ SqT K H c zs ∧ i < xs.length,
  fun i H v H' => ∃ T x y z, v = .ref T ∧ H T = none ∧ H' = upd H T (.tup [x, y, z]) ∧ xs[i]? = some x ∧ ys[i]? = some y ∧ zs[i]? = some z,
  fun i H => SqT K H a xs ∧ SqT K H b ys ∧ SqT K H c zs ∧ i = xs.length⟩
theorem turn_zip3 {P : Program} {w : World} {K : PySem.W.Frag} {a b c z TI TO i1 i2 i3 : Addr} {xs ys zs : List V} (e1 : ys.length = xs.length) (e2 : zs.length = xs.length) (S : ZipSep3 z TI TO i1 i2 i3 [i1, a] [i2, b] [i3, c]) :
    Turn P w K (.Tuple elts kk tpos) (Itz3 K a b c xs ys zs) [z, TI, TO, i1, i2, i3] z (fun i h => IsZip h z TI TO .none ∧ IsTupOf3 h TI (.ref i1) (.ref i2) (.ref i3) ∧ (∃ u v w, IsTupOf3 h TO u v w) ∧ h.IsTupleIter i1 a i ∧ h.IsTupleIter i2 b i ∧ h.IsTupleIter i3 c i) where
  mem := by simp
  obj := fun i h st d hd => by
    obtain ⟨hz, hTI, ⟨u, v, w, hTO⟩, ⟨o1, q1, _, d1⟩, ⟨o2, q2, _, d2⟩, ⟨o3, q3, _, d3⟩⟩ := st
    have e' : d = z ∨ d = TI ∨ d = TO ∨ d = i1 ∨ d = i2 ∨ d = i3 := by simpa using hd
    rcases e' with q | q | q | q | q | q
    · rw [q]; exact ⟨_, hz, fun v q => nomatch q⟩
    · rw [q]; exact ⟨_, hTI, fun v q => nomatch q⟩
    · rw [q]; exact ⟨_, hTO, fun v q => nomatch q⟩
    · rw [q]; exact ⟨o1, q1, fun v q => by rw [d1] at q; cases q⟩
    · rw [q]; exact ⟨o2, q2, fun v q => by rw [d2] at q; cases q⟩
    · rw [q]; exact ⟨o3, q3, fun v q => by rw [d3] at q; cases q⟩
  keep := fun i h h' st kp => by
    obtain ⟨hz, hTI, ⟨u, v, w, hTO⟩, ⟨o1, q1, c1⟩, ⟨o2, q2, c2⟩, ⟨o3, q3, c3⟩⟩ := st
    exact ⟨kp z (by simp) _ hz, kp TI (by simp) _ hTI, ⟨u, v, w, kp TO (by simp) _ hTO⟩, ⟨o1, kp i1 (by simp) o1 q1, c1⟩, ⟨o2, kp i2 (by simp) o2 q2, c2⟩, ⟨o3, kp i3 (by simp) o3 q3, c3⟩⟩
  item := by
    intro X hP hw hK hc i pins s σ H E I hf st hg
    subst hP hw hK
    obtain ⟨hz, hTI, ⟨u0, v0, w0, hTO⟩, h1, h2, h3⟩ := st
    obtain ⟨g1, g2, g3, hlt⟩ := hg
    obtain ⟨its1, r1, p1, _⟩ := I.tuple g1
    obtain ⟨its2, r2, p2, _⟩ := I.tuple g2
    obtain ⟨its3, r3, p3, _⟩ := I.tuple g3
    have l1 := r1.length
    have l2 := r2.length
    have l3 := r3.length
    have n1 : a ≠ i1 := fun q => by
      obtain ⟨o, w1, w2, _⟩ := h1
      obtain ⟨o', w3, w4, _⟩ := p1
      rw [q, w1] at w3
      cases w3
      rw [w2] at w4
      exact absurd (Value.type.inj w4) (by decide)
    have n2 : b ≠ i2 := fun q => by
      obtain ⟨o, w1, w2, _⟩ := h2
      obtain ⟨o', w3, w4, _⟩ := p2
      rw [q, w1] at w3
      cases w3
      rw [w2] at w4
      exact absurd (Value.type.inj w4) (by decide)
    have n3 : c ≠ i3 := fun q => by
      obtain ⟨o, w1, w2, _⟩ := h3
      obtain ⟨o', w3, w4, _⟩ := p3
      rw [q, w1] at w3
      cases w3
      rw [w2] at w4
      exact absurd (Value.type.inj w4) (by decide)
    have D1 := Draws.tuple (prog := X.prog) (w := X.w) (A := X.A.in1) (I.ok.hd hc) i1 a n1 its1.toArray
    have D2 := Draws.tuple (prog := X.prog) (w := X.w) (A := X.A.in1) (I.ok.hd hc) i2 b n2 its2.toArray
    have D3 := Draws.tuple (prog := X.prog) (w := X.w) (A := X.A.in1) (I.ok.hd hc) i3 c n3 its3.toArray
    have hzl : z < s.heap.objs.size := Heap.lt_size hz
    refine wpAny_pyNext_zipD3_item S D1 D2 D3 hz hTI hTO ⟨h1, p1⟩ ⟨h2, p2⟩ ⟨h3, p3⟩ (by rw [List.size_toArray]; omega) (by rw [List.size_toArray]; omega) (by rw [List.size_toArray]; omega) fun v1 v2 v3 h' tk q1 q2 q3 z' TO' t1 t2 t3 hT hsz hk => ?_
    obtain ⟨u1, w1, m1⟩ := Vals.get (i := i) (x := xs[i]) r1 (List.getElem?_eq_getElem hlt)
    obtain ⟨u2, w2, m2⟩ := Vals.get (i := i) (x := ys[i]'(by omega)) r2 (List.getElem?_eq_getElem (by omega))
    obtain ⟨u3, w3, m3⟩ := Vals.get (i := i) (x := zs[i]'(by omega)) r3 (List.getElem?_eq_getElem (by omega))
    have k1 : u1 = v1 := by simpa [w1] using q1
    have k2 : u2 = v2 := by simpa [w2] using q2
    have k3 : u3 = v3 := by simpa [w3] using q3
    subst k1 k2 k3
    refine ⟨_, rfl, wpAny_letOwnedTupleGo_zip (s := { s with heap := h', toks := tk }) z' fun h'' z'' sb => ?_⟩
    have hT2 : IsTupOf3 h'' s.heap.objs.size u1 u2 u3 := (sb.2 _ (Nat.ne_of_gt hzl)).trans hT
    have new : ObjOk X.prog X.w (upd H s.heap.objs.size (.tup [xs[i], ys[i]'(by omega), zs[i]'(by omega)])) h'' s.heap.objs.size (.tup [xs[i], ys[i]'(by omega), zs[i]'(by omega)]) :=
      ⟨by show 3 ≤ sizeLine; decide, [u1, u2, u3], .cons m1 (.cons m2 (.cons m3 .nil)), ⟨_, hT2, rfl, _, rfl⟩⟩
    have I1 : Inv X pins σ (upd H s.heap.objs.size (.tup [xs[i], ys[i]'(by omega), zs[i]'(by omega)])) { s with heap := h'', toks := tk } :=
      I.turnedNew (t' := tk) (ch := [z, TI, TO, i1, i2, i3]) (fun c o hb q => (sb.2 c (fun q' => hb (by simp [q']))).trans (hk c o (fun q' => hb (by simp [q'])) (fun q' => hb (by simp [q'])) (fun q' => hb (by simp [q'])) (fun q' => hb (by simp [q'])) (fun q' => hb (by simp [q'])) q)) hf (Nat.le_refl _) new
    refine ⟨.ref s.heap.objs.size, _, I1, rfl, ⟨_, _, _, _, rfl, I.hok.fresh (Nat.le_refl _), rfl, List.getElem?_eq_getElem hlt, List.getElem?_eq_getElem (by omega), List.getElem?_eq_getElem (by omega)⟩, ⟨z'', ?_, ⟨_, _, _, (sb.2 _ S.TOz).trans TO'⟩, ?_, ?_, ?_⟩, fun d hdm => ?_⟩
    · exact (sb.2 _ S.TIz).trans (hk _ _ S.TIz S.TITO S.TIi1 S.TIi2 S.TIi3 hTI)
    · obtain ⟨⟨o1, e1, c1⟩, _⟩ := t1
      exact ⟨o1, (sb.2 _ (fun q => S.zi1 q.symm)).trans e1, c1⟩
    · obtain ⟨⟨o1, e1, c1⟩, _⟩ := t2
      exact ⟨o1, (sb.2 _ (fun q => S.zi2 q.symm)).trans e1, c1⟩
    · obtain ⟨⟨o1, e1, c1⟩, _⟩ := t3
      exact ⟨o1, (sb.2 _ (fun q => S.zi3 q.symm)).trans e1, c1⟩
    · have hlt : d < s.heap.objs.size := by
        have e' : d = z ∨ d = TI ∨ d = TO ∨ d = i1 ∨ d = i2 ∨ d = i3 := by simpa using hdm
        rcases e' with q | q | q | q | q | q
        · rw [q]; exact hzl
        · rw [q]; exact Heap.lt_size hTI
        · rw [q]; exact Heap.lt_size hTO
        · rw [q]; obtain ⟨_, e1, _⟩ := h1; exact Heap.lt_size e1
        · rw [q]; obtain ⟨_, e1, _⟩ := h2; exact Heap.lt_size e1
        · rw [q]; obtain ⟨_, e1, _⟩ := h3; exact Heap.lt_size e1
      rw [upd_ne (Nat.ne_of_lt hlt)]
      exact (hf d hdm).1
  done := by
    intro X hP hw hK hc i pins s σ H E I hf st hg
    subst hP hw hK
    obtain ⟨hz, hTI, ⟨u0, v0, w0, hTO⟩, h1, h2, h3⟩ := st
    obtain ⟨g1, g2, g3, hlt⟩ := hg
    obtain ⟨its1, r1, p1, _⟩ := I.tuple g1
    obtain ⟨its2, r2, p2, _⟩ := I.tuple g2
    obtain ⟨its3, r3, p3, _⟩ := I.tuple g3
    have l1 := r1.length
    have l2 := r2.length
    have l3 := r3.length
    have n1 : a ≠ i1 := fun q => by
      obtain ⟨o, w1, w2, _⟩ := h1
      obtain ⟨o', w3, w4, _⟩ := p1
      rw [q, w1] at w3
      cases w3
      rw [w2] at w4
      exact absurd (Value.type.inj w4) (by decide)
    have n2 : b ≠ i2 := fun q => by
      obtain ⟨o, w1, w2, _⟩ := h2
      obtain ⟨o', w3, w4, _⟩ := p2
      rw [q, w1] at w3
      cases w3
      rw [w2] at w4
      exact absurd (Value.type.inj w4) (by decide)
    have n3 : c ≠ i3 := fun q => by
      obtain ⟨o, w1, w2, _⟩ := h3
      obtain ⟨o', w3, w4, _⟩ := p3
      rw [q, w1] at w3
      cases w3
      rw [w2] at w4
      exact absurd (Value.type.inj w4) (by decide)
    have D1 := Draws.tuple (prog := X.prog) (w := X.w) (A := X.A.in1) (I.ok.hd hc) i1 a n1 its1.toArray
    have D2 := Draws.tuple (prog := X.prog) (w := X.w) (A := X.A.in1) (I.ok.hd hc) i2 b n2 its2.toArray
    have D3 := Draws.tuple (prog := X.prog) (w := X.w) (A := X.A.in1) (I.ok.hd hc) i3 c n3 its3.toArray
    have hzl : z < s.heap.objs.size := Heap.lt_size hz
    refine wpAny_pyNext_zipD3_end S D1 D2 D3 hz hTI hTO ⟨h1, p1⟩ ⟨h2, p2⟩ ⟨h3, p3⟩ (by rw [List.size_toArray]; omega) (by rw [List.size_toArray]; omega) (by rw [List.size_toArray]; omega) (by rw [List.size_toArray]; omega) fun h' tk hk => ⟨rfl, I.turnedL (t' := tk) (ch := [z, TI, TO, i1, i2, i3]) (fun c o hb q =>
      hk c o (fun q' => hb (by simp [q'])) (fun q' => hb (by simp [q'])) (fun q' => hb (by simp [q'])) (fun q' => hb (by simp [q'])) (fun q' => hb (by simp [q'])) q) hf⟩
  self := fun A i s Q E st h => wpAny_pyIter_zip st.1 h
def iZip3 (K : PySem.W.Frag) (ta : TA) : TI := fun σ H R => ta σ H fun vs H1 => ∃ (a b c : Addr) (xs ys zs : List V), vs = [.ref a, .ref b, .ref c] ∧ SqT K H1 a xs ∧ SqT K H1 b ys ∧ SqT K H1 c zs ∧ ys.length = xs.length ∧ zs.length = xs.length ∧ R (Itz3 K a b c xs ys zs) H1
theorem pi_zip3 {X : Cx} {e e2 e3 : Expr} {ta : TA} {p pos : Pos} (hg : Gl X "zip") (hm : X.mg "zip" = none) (ha : PA X [e, e2, e3] ta)
    (hs : starEach [e, e2, e3] X.env = (false, eval e X.env) :: starEach [e2, e3] X.env) (hpl : (backTo pos (starEach [e2, e3] X.env)).any (·.1) = false) :
    PI X (.Tuple elts kk tpos) (.Call (.Name "zip" p) [e, e2, e3] [] pos) (iZip3 X.K ta) := by
  constructor
  intro pins s σ H R I h
  refine Call_ (ld_blt I hg hm PyProof.Rows.boot_zip (PyProof.Rows.callWith_type1 (thn (ha.run pos pins s σ H _ I h) ?_) hs hpl))
  rintro us s1 ⟨vs, H1, I1, r1, a, b, c, xs, ys, zs, rfl, g1, g2, g3, l1, l2, q⟩
  obtain ⟨us, rfl⟩ : ∃ w, us = w := ⟨_, rfl⟩
  cases r1 with
  | cons ra r1 =>
  cases r1 with
  | cons rb r1 =>
  cases r1 with
  | cons rc r1 =>
  cases r1
  cases ra
  cases rb
  cases rc
  obtain ⟨its1, v1, p1, _⟩ := I1.tuple g1
  obtain ⟨its2, v2, p2, _⟩ := I1.tuple g2
  obtain ⟨its3, v3, p3, _⟩ := I1.tuple g3
  refine zip_begins3 (begins_tuple a its1.toArray) (begins_tuple b its2.toArray) (begins_tuple c its3.toArray) p1 p2 p3 fun h' hz hTI hTO w1 w2 w3 hsz hk => wpAny_pyIter_zip hz ?_
  have I2 : Inv X pins σ H1 { s1 with heap := h' } := I1.kept (t' := s1.toks) hk
  refine ⟨s1.heap.objs.size + 5, [s1.heap.objs.size + 5, s1.heap.objs.size + 3, s1.heap.objs.size + 4, s1.heap.objs.size, s1.heap.objs.size + 1, s1.heap.objs.size + 2], _, _, H1, rfl, I2,
    turn_zip3 (K := X.K) (a := a) (b := b) (c := c) (xs := xs) (ys := ys) (zs := zs) l1 l2 (zip_sep3 (N := s1.heap.objs.size) (fp1 := [a]) (fp2 := [b]) (fp3 := [c]) (fun d z => by rw [List.mem_singleton.mp z]; exact p1.lt) (fun d z => by rw [List.mem_singleton.mp z]; exact p2.lt) (fun d z => by rw [List.mem_singleton.mp z]; exact p3.lt)),
    ⟨hz, hTI, ⟨_, _, _, hTO⟩, ⟨_, w1, rfl, rfl⟩, ⟨_, w2, rfl, rfl⟩, ⟨_, w3, rfl, rfl⟩⟩, fun d hdm => ?_, q⟩
  have e' : d = s1.heap.objs.size + 5 ∨ d = s1.heap.objs.size + 3 ∨ d = s1.heap.objs.size + 4 ∨ d = s1.heap.objs.size ∨ d = s1.heap.objs.size + 1 ∨ d = s1.heap.objs.size + 2 := by simpa using hdm
  have hle : s1.heap.objs.size ≤ d := by
    rcases e' with z | z | z | z | z | z
    all_goals
      rw [z]
      first
        | exact Nat.le_add_right _ _
        | exact Nat.le_refl _
  exact I1.fpOk hle (I1.hok.fresh hle)
def trips (xs ys zs : List DL.D) : List DL.D := (xs.zip (ys.zip zs)).map fun p => .tup [p.1, p.2.1, p.2.2]
def dZip3 (t u v : DTE) : DTI := fun ρ M R => t ρ M fun d M1 => u ρ M1 fun d' M2 => v ρ M2 fun d'' M3 => ∃ xs ys zs, d = .tup xs ∧ d' = .tup ys ∧ d'' = .tup zs ∧ ys.length = xs.length ∧ zs.length = xs.length ∧ R (trips xs ys zs) (fun _ => True) M3
theorem trips_get {xs ys zs : List DL.D} {i : Nat} {d : DL.D} (h : (trips xs ys zs)[i]? = some d) : ∃ x y z, xs[i]? = some x ∧ ys[i]? = some y ∧ zs[i]? = some z ∧ d = .tup [x, y, z] := by
  unfold trips at h
  rw [List.getElem?_map] at h
  cases e : (xs.zip (ys.zip zs))[i]? with
  | none => rw [e] at h; cases h
  | some q =>
    rw [e] at h
    cases h
    rw [List.getElem?_zip_eq_some] at e
    obtain ⟨e1, e2⟩ := e
    rw [List.getElem?_zip_eq_some] at e2
    exact ⟨q.1, q.2.1, q.2.2, e1, e2.1, e2.2, rfl⟩
theorem di_zip3 {X : Cx} {Y : KJ X.K} {e e2 e3 : Expr} {t u v : DTE} {p pos : Pos} (hm : X.mg "zip" = none) (he : DE X Y e t) (he2 : DE X Y e2 u) (he3 : DE X Y e3 v) (hg : Gl X "zip" := by rfl) (hs : starEach [e, e2, e3] X.env = (false, eval e X.env) :: starEach [e2, e3] X.env := by rfl) (hs2 : starEach [e2, e3] X.env = (false, eval e2 X.env) :: starEach [e3] X.env := by rfl)
    (hs3 : starEach [e3] X.env = (false, eval e3 X.env) :: starEach [] X.env := by rfl) (hpl : (backTo pos (starEach [e2, e3] X.env)).any (·.1) = false := by rfl) : DI X Y (.Tuple elts kk tpos) (.Call (.Name "zip" p) [e, e2, e3] [] pos) (dZip3 t u v) := by
  refine PI.weak (pi_zip3 hg hm (pa_cons he (pa_cons he2 (pa_cons he3 pa_nil hs3) hs2) hs) hs hpl) ?_
  rintro σ H R0 ⟨F, M, ρ, R, rs, rl, q, k⟩
  refine ⟨F, M, ρ, _, rs, rl, q, fun v1 d1 F1 M1 H1 s1 rp1 q1 => ?_⟩
  refine ⟨F1, M1, ρ, _, rs.mono s1.same, s1.rel, q1, fun v2 d2 F2 M2 H2 s2 rp2 q2 => ?_⟩
  refine ⟨F2, M2, ρ, _, (rs.mono s1.same).mono s2.same, s2.rel, q2, fun v3 d3 F3 M3 H3 s3 rp3 ⟨xs, ys, zs, ex, ey, ez, l1, l2, q3⟩ => ?_⟩
  subst ex ey ez
  have r1 := (rp1.mono s2.same).mono s3.same
  have r2 := rp2.mono s3.same
  cases r1 with
  | @tup a vs _ a1 ra =>
  cases r2 with
  | @tup b ws _ a2 rb =>
  cases rp3 with
  | @tup c us _ a3 rc =>
  have L1 := ra.length
  have L2 := rb.length
  have L3 := rc.length
  refine ⟨a, b, c, vs, ws, us, rfl, Same.tseq s3.rel.sub a1, Same.tseq s3.rel.sub a2, Same.tseq s3.rel.sub a3, by omega, by omega, k _ (trips xs ys zs) (fun _ => True) F3 M3 H3 ((s1.trans s2).trans s3) ⟨fun F4 M4 H4 s4 r4 g => ?_⟩ q3⟩
  have hl : (trips xs ys zs).length = vs.length := by unfold trips; simp; omega
  have b1 := Same.tseq (s4.trans r4.sub) a1
  have b2 := Same.tseq (s4.trans r4.sub) a2
  have b3 := Same.tseq (s4.trans r4.sub) a3
  refine ⟨⟨b1, b2, b3, hl⟩, fun i dd hi => ?_⟩
  have hlt : i < vs.length := by rw [← hl]; exact (List.getElem?_eq_some_iff.mp hi).1
  obtain ⟨x, y, z, hx, hy, hz, rfl⟩ := trips_get hi
  refine ⟨⟨b1, b2, b3, hlt⟩, fun vv H5 yy => ?_⟩
  obtain ⟨T, x1, y1, z1, rfl, hT, eH, hx1, hy1, hz1⟩ := yy
  obtain ⟨vx, ex1, rx⟩ := ra.get hx
  obtain ⟨vy, ey1, ry⟩ := rb.get hy
  obtain ⟨vz, ez1, rz⟩ := rc.get hz
  rw [ex1] at hx1
  rw [ey1] at hy1
  rw [ez1] at hz1
  cases hx1
  cases hy1
  cases hz1
  subst eH
  have st := r4.newF hT (.tup [x1, y1, z1])
  exact ⟨_, st, .tup (.inl (.inl upd_same)) (.cons ((rx.mono s4).mono st.same) (.cons ((ry.mono s4).mono st.same) (.cons ((rz.mono s4).mono st.same) .nil)))⟩
end
/-! ### a constant dict, asked -/
section
variable {X : Cx} {Y : KJ X.K} {pos : Pos} {a b : Expr} {t u : DTE}
def rInDc : RD2 := fun x y M Q => ∃ k ks ds, keyD x = some k ∧ y = .dct ks ds ∧ Q (.bl (lkD k ks ds).isSome) M
def rGetDc : RD2 := fun x y M Q => ∃ k ks ds d, x = .dct ks ds ∧ keyD y = some k ∧ lkD k ks ds = some d ∧ Q d M
theorem dt_cmpC {n : Nat} (hr : Room n X.A) (ha : DE X Y a t) (hb : DE X Y b u) (hm : behindInMarks .In b = false) : DT X Y (.Compare a [.In] [b] pos) (dB (dOp rInDc t u)) := by
  have hu := hr.units
  refine PT.weak (pt_cmp (pc_din (by omega) ha hb) hm) ?_
  rintro σ H Q0 ⟨F, M, ρ, Q, rs, rl, q, kk⟩
  refine ⟨F, M, ρ, _, rs, rl, q, fun y d F1 M1 H1 s1 rp1 q1 => ?_⟩
  refine ⟨F1, M1, ρ, _, rs.mono s1.same, s1.rel, q1, fun x e F2 M2 H2 s2 rp2 ⟨k, ks, ds, ek, ed, c, eb, q2⟩ => ?_⟩
  subst ed
  cases eb
  cases rp2 with
  | dct at1 len ra =>
    refine ⟨_, _, rfl, .inl ⟨_, k, .inl (s2.rel.sub _ _ at1), keyD_rp rp1 ek, rfl⟩, _, rfl, ?_⟩
    have k1 := kk _ F2 M2 H2 (s1.trans s2) q2
    rcases lk_rp k ra len with ⟨h1, h2⟩ | ⟨d', v', h1, h2, h3⟩
    · rw [h1] at k1; rw [h2]; exact k1
    · rw [h1] at k1; rw [h2]; exact k1
theorem de_getDc {n : Nat} (hr : Room n X.A) (ha : DE X Y a t) (hb : DE X Y b u) (hs : NoSl b := by exact fun _ _ => rfl) : DE X Y (.Subscript a b pos) (dOp rGetDc t u) := by
  have hu := hr.units
  refine PE.weak (pe_dget (by omega) ha hb hs) ?_
  rintro σ H Q0 ⟨F, M, ρ, Q, rs, rl, q, kk⟩
  refine ⟨F, M, ρ, _, rs, rl, q, fun x d F1 M1 H1 s1 rp1 q1 => ?_⟩
  refine ⟨F1, M1, ρ, _, rs.mono s1.same, s1.rel, q1, fun y e F2 M2 H2 s2 rp2 ⟨k, ks, ds, d', ed, ek, el, q2⟩ => ?_⟩
  subst ed
  cases rp1 with
  | dct at1 len ra =>
    rcases lk_rp k ra len with ⟨h1, h2⟩ | ⟨d2, v2, h1, h2, h3⟩
    · rw [el] at h1; cases h1
    · rw [el] at h1; cases h1
      exact ⟨_, v2, rfl, .inl ⟨_, k, .inl (s2.rel.sub _ _ (s2.same _ _ at1)), keyD_rp rp2 ek, h2.symm⟩, kk _ _ F2 M2 H2 (s1.trans s2) (h3.mono s2.same) q2⟩
/-- sorted(such a dict), its keys numbers -/
def rSortDc (fz : Bool) : RDL := fun ds M Q => ∃ (ns : List Int) (xs : List DL.D), ds = [.dct (ns.map Sum.inl) xs] ∧ ∀ ms : List Int, ms.Perm ns → ms.Pairwise (· ≤ ·) → newL fz (ms.map DL.D.int) M Q
theorem cd_sortDc (fz : Bool) (hc : X.calm = true) : CallD X Y (.builtin "sorted") (rSortDc fz) := by
  intro pins s σ H vs us Q0 I r ⟨F, M, ds, Q, rp, rl, ⟨ns, xs, e, q⟩, k⟩
  subst e
  obtain ⟨v, rfl, r1⟩ := rp1 rp
  cases r1 with
  | @dct a _ ws _ at1 len ra =>
    refine cr_sortDI hc pins s σ H _ us Q0 I r ⟨a, _, ns, rfl, .inl (rl.sub _ _ at1), ?_, fun ms n pm so hn => newL_ok rl (of_intsR ms) (q ms pm so) k n hn⟩
    rw [List.map_fst_zip (by omega)]
end
end DL

set_option maxHeartbeats 4000000
/-! DY6: readings weakened. -/
namespace DL
open PySem PySem.Spec L2
open PyProof.Rows hiding St
theorem dss_weak {X : Cx} {Y : KJ X.K} {ss : List Stmt} {t t' : DTS} (h : DSs X Y ss t) (w : ∀ D ρ M, t' D ρ M → t D ρ M) : DSs X Y ss t' :=
  ⟨fun pins s σ H D0 I ⟨F, M, ρ, D, rs, r, q, e⟩ => h.run pins s σ H D0 I ⟨F, M, ρ, D, rs, r, w D ρ M q, e⟩⟩
end DL

set_option maxHeartbeats 4000000
/-! K90a: the defs of the text, printed by gen5.py. -/
namespace K90
open PySem PySem.Spec L2 DL
open PyProof.Rows hiding St
/-- the exceptions that are heard -/
def kn (x : Str) : Prop := x = "BadRow"
def isC (y : Str) (x : Str) : Bool := x == y
structure Exs (P : Program) (w : World) (K : PySem.W.Frag) (mg : Str → Option Value) (base : Heap) : Prop where
  x_BadRow : ExC P w K mg base "BadRow"
structure Kns (K : PySem.W.Frag) (mg : Str → Option Value) (CS C_BadRow : Addr) : Prop where
  mT : mg "TextError" = some (.ref CS)
  m_BadRow : mg "BadRow" = some (.ref C_BadRow)
  known : Known K kn
  sub : ∀ n C, kn n → PySem.W.nsIn K mainGlobals n = some (some (.ref C)) → PySem.W.exmOne K (.ref C) (.ref CS) = some true
  sub_BadRow : SubsOf K kn C_BadRow (isC "BadRow")
def topS (i : Nat) : Stmt := PySem.Challenge.pw_eithermended_k90_whole_rows_edited_twice.main.body.getD i (.Pass ⟨0, 0, 0, 0⟩)
def v_CLASH : DL.D := .str "clash"
def v_KEEP : DL.D := .str "keep"
def v_MERGED : DL.D := .str "merged"
def v_MOST_PIECE : DL.D := .int 100
def v_MOST_ROW : DL.D := .int 40
def v_SIGNS : DL.D := .str "\x0a ,-.0123456789:;=abcdefghijklmnopqrstuvwxyz"
def v_TURN : DL.D := .str "turn"
abbrev st__law_heard : Stmt := topS 34
abbrev N__law_heard : List Str := ["call", "caught", "back", "error"]
theorem sc__law_heard : FnScope N__law_heard ["call"] (defScope st__law_heard) := ⟨rfl, rfl, rfl, by decide +kernel, rfl, by decide +kernel, by decide +kernel⟩
theorem give_heard {X : Cx} {CS : Addr} (hm : X.mg "TextError" = some (.ref CS)) (g : Addr) (cdv : Value) (q : Str) : GivesS X N__law_heard "_law_heard" (defScope st__law_heard) g cdv (defBody st__law_heard) "call" q (THeard X.K CS) :=
  heard_gives rfl hm (by decide) rfl rfl rfl (by decide) (fun env h => by cases env; subst h; rfl) (fun env h => by cases env; subst h; rfl) (fun env h => by cases env; subst h; rfl) (fun env h => by cases env; subst h; rfl) (by decide) (by decide) (by decide) (by decide) (by decide) (by decide)
theorem give_heardK {X : Cx} {CS : Addr} (hm : X.mg "TextError" = some (.ref CS)) (g : Addr) (cdv : Value) : GivesK X N__law_heard "_law_heard" (defScope st__law_heard) g cdv (defBody st__law_heard) "call" (THeard X.K CS) :=
  heard_givesK rfl hm (by decide) rfl rfl rfl (by decide) (fun env h => by cases env; subst h; rfl) (fun env h => by cases env; subst h; rfl) (fun env h => by cases env; subst h; rfl) (fun env h => by cases env; subst h; rfl) (by decide) (by decide) (by decide) (by decide) (by decide) (by decide)
abbrev st_is_tuple : Stmt := topS 3
abbrev N_is_tuple : List Str := ["value", "least", "most"]
theorem sc_is_tuple : FnScope N_is_tuple ["value", "least", "most"] (defScope st_is_tuple) := ⟨rfl, rfl, rfl, by decide +kernel, rfl, by decide +kernel, by decide +kernel⟩
def r_is_tuple : DTS := (dRet (dAndV (dIsi "tuple" (dSlot 0)) (dChain (rInt (fun _ _ => True) fun i j => .bl (decide (i ≤ j))) (rInt (fun _ _ => True) fun i j => .bl (decide (i ≤ j))) (dSlot 1) (dCB rLen (dCons (dSlot 0) dNil)) (dSlot 2))))
abbrev st_is_text : Stmt := topS 4
abbrev N_is_text : List Str := ["value", "most", "sign"]
theorem sc_is_text : FnScope N_is_text ["value", "most"] (defScope st_is_text) := ⟨rfl, rfl, rfl, by decide +kernel, rfl, by decide +kernel, by decide +kernel⟩
def r_is_text : DTS := (dRet (dAndV (dIsi "str" (dSlot 0)) (dAndV (dOp (rInt (fun _ _ => True) fun i j => .bl (decide (i ≤ j))) (dCB rLen (dCons (dSlot 0) dNil)) (dSlot 1)) (dCB rAllD (dCons (dLc true (dIt (dSlot 0)) (dgName 2) dYes (dOp (rInD false) (dSlot 2) (dC v_SIGNS)) [2]) dNil)))))
abbrev st_check_row : Stmt := topS 15
abbrev N_check_row : List Str := ["value", "text"]
theorem sc_check_row : FnScope N_check_row ["value"] (defScope st_check_row) := ⟨rfl, rfl, rfl, by decide +kernel, rfl, by decide +kernel, by decide +kernel⟩
def r_check_row (E1 : DXK) (sp_is_tuple : DS1) (sp_is_text : DS1) : DTS := (dIfS (dOrT (dNotT (dB (dCall1 sp_is_tuple (dCons (dSlot 0) (dCons (dC (.int 0)) (dCons (dC v_MOST_ROW) dNil)))))) (dNotT (dB (dCB rAllD (dCons (dLc true (dIt (dSlot 0)) (dgName 1) dYes (dCall1 sp_is_text (dCons (dSlot 1) (dCons (dC v_MOST_PIECE) dNil))) [1]) dNil))))) (dRaise "BadRow" (dSlot 0) E1) dNext)
abbrev st_longest_from : Stmt := topS 16
abbrev N_longest_from : List Str := ["one", "other", "found", "here", "there", "place"]
theorem sc_longest_from : FnScope N_longest_from ["one", "other"] (defScope st_longest_from) := ⟨rfl, rfl, rfl, by decide +kernel, rfl, by decide +kernel, by decide +kernel⟩
def r_longest_from : DTS := (dSeq (dAsg (dLc true (dRange1 (dOp (rAddD true) (dCB rLen (dCons (dSlot 0) dNil)) (dC (.int 1)))) (dgName 5) dYes (dOp (rMulD false) (dLst true (dCons (dC (.int 0)) dNil)) (dOp (rAddD true) (dCB rLen (dCons (dSlot 1) dNil)) (dC (.int 1)))) [5]) (dgName 2)) (dSeq (dFor (dRangeDn (dOp (rInt (fun _ _ => True) fun i j => .int (i - j)) (dCB rLen (dCons (dSlot 0) dNil)) (dC (.int 1))) (dNeg (dC (.int 1))) (dNeg (dC (.int 1)))) (dgName 3) (dFor (dRangeDn (dOp (rInt (fun _ _ => True) fun i j => .int (i - j)) (dCB rLen (dCons (dSlot 1) dNil)) (dC (.int 1))) (dNeg (dC (.int 1))) (dNeg (dC (.int 1)))) (dgName 4) (dSeq (dAsg (dCB rMax2D (dCons (dOp rIxD (dOp rIxD (dSlot 2) (dOp (rAddD true) (dSlot 3) (dC (.int 1)))) (dSlot 4)) (dCons (dOp rIxD (dOp rIxD (dSlot 2) (dSlot 3)) (dOp (rAddD true) (dSlot 4) (dC (.int 1)))) dNil))) (dgSub (dOp rIxD (dSlot 2) (dSlot 3)) (dSlot 4) rSetD)) (dIfS (dB (dOp (rEqD2 false) (dOp rIxD (dSlot 0) (dSlot 3)) (dOp rIxD (dSlot 1) (dSlot 4)))) (dAsg (dCB rMax2D (dCons (dOp rIxD (dOp rIxD (dSlot 2) (dSlot 3)) (dSlot 4)) (dCons (dOp (rAddD true) (dC (.int 1)) (dOp rIxD (dOp rIxD (dSlot 2) (dOp (rAddD true) (dSlot 3) (dC (.int 1)))) (dOp (rAddD true) (dSlot 4) (dC (.int 1))))) dNil))) (dgSub (dOp rIxD (dSlot 2) (dSlot 3)) (dSlot 4) rSetD)) dNext)))) (dRet (dSlot 2))))
abbrev st_pairs_of : Stmt := topS 17
abbrev N_pairs_of : List Str := ["one", "other", "most", "pairs", "here", "there", "left", "good", "place", "at"]
theorem sc_pairs_of : FnScope N_pairs_of ["one", "other"] (defScope st_pairs_of) := ⟨rfl, rfl, rfl, by decide +kernel, rfl, by decide +kernel, by decide +kernel⟩
def r_pairs_of (sp_longest_from : DS1) (sp_fits : DS1) : DTS := (dSeq (dAsg (dTup (dCons (dCall1 sp_longest_from (dCons (dSlot 0) (dCons (dSlot 1) dNil))) (dCons (dLst false dNil) (dCons (dC (.int 0)) (dCons (dC (.int 0)) dNil))))) (dgTup 4 (dgCons (dgName 2) (dgCons (dgName 3) (dgCons (dgName 4) (dgCons (dgName 5) dgNil)))))) (dSeq (dWhile (dB (dOp (rInt (fun _ _ => True) fun i j => .bl (decide (j < i))) (dOp rIxD (dOp rIxD (dSlot 2) (dSlot 4)) (dSlot 5)) (dC (.int 0)))) (dSeq (dAsg (dOp rIxD (dOp rIxD (dSlot 2) (dSlot 4)) (dSlot 5)) (dgName 6)) (dSeq (dAsg (dLst true dNil) (dgName 7)) (dSeq (dFor (dRange2 (dSlot 4) (dCB rLen (dCons (dSlot 0) dNil))) (dgName 8) (dIfS (dB (dOp (rEqD2 false) (dSlot 7) (dLst true dNil))) (dAsg (dLc true (dRange2 (dSlot 5) (dCB rLen (dCons (dSlot 1) dNil))) (dgName 9) (dB (dCall1 sp_fits (dCons (dSlot 0) (dCons (dSlot 1) (dCons (dSlot 2) (dCons (dSlot 8) (dCons (dSlot 9) (dCons (dSlot 6) dNil)))))))) (dTup (dCons (dSlot 8) (dCons (dSlot 9) dNil))) [9]) (dgName 7)) dNext)) (dSeq (dDrop (dAppend (dSlot 3) (dOp rIxD (dSlot 7) (dC (.int 0))))) (dPar 4 5 (dCons (dOp (rAddD true) (dOp rIxD (dOp rIxD (dSlot 7) (dC (.int 0))) (dC (.int 0))) (dC (.int 1))) (dCons (dOp (rAddD true) (dOp rIxD (dOp rIxD (dSlot 7) (dC (.int 0))) (dC (.int 1))) (dC (.int 1))) dNil)))))))) (dRet (dHold (dSlot 3)))))
abbrev st_fits : Stmt := topS 18
abbrev N_fits : List Str := ["one", "other", "most", "place", "at", "left"]
theorem sc_fits : FnScope N_fits ["one", "other", "most", "place", "at", "left"] (defScope st_fits) := ⟨rfl, rfl, rfl, by decide +kernel, rfl, by decide +kernel, by decide +kernel⟩
def r_fits : DTS := (dRet (dAndV (dOp (rEqD2 false) (dOp rIxD (dSlot 0) (dSlot 3)) (dOp rIxD (dSlot 1) (dSlot 4))) (dOp (rEqD2 false) (dOp rIxD (dOp rIxD (dSlot 2) (dOp (rAddD true) (dSlot 3) (dC (.int 1)))) (dOp (rAddD true) (dSlot 4) (dC (.int 1)))) (dOp (rInt (fun _ _ => True) fun i j => .int (i - j)) (dSlot 5) (dC (.int 1))))))
abbrev st_common : Stmt := topS 19
abbrev N_common : List Str := ["one", "other"]
theorem sc_common : FnScope N_common ["one", "other"] (defScope st_common) := ⟨rfl, rfl, rfl, by decide +kernel, rfl, by decide +kernel, by decide +kernel⟩
def r_common (E1 : DXK) (sp_check_row : DSp) (sp_pairs_of : DS1) : DTS := (dSeq (dDrop (dCallE sp_check_row (dCons (dSlot 0) dNil) E1)) (dSeq (dDrop (dCallE sp_check_row (dCons (dSlot 1) dNil) E1)) (dRet (dCB rTupD (dCons (dCall1 sp_pairs_of (dCons (dSlot 0) (dCons (dSlot 1) dNil))) dNil)))))
abbrev st_blocks_of : Stmt := topS 20
abbrev N_blocks_of : List Str := ["one", "other", "found", "here", "there", "kept", "place", "at"]
theorem sc_blocks_of : FnScope N_blocks_of ["one", "other"] (defScope st_blocks_of) := ⟨rfl, rfl, rfl, by decide +kernel, rfl, by decide +kernel, by decide +kernel⟩
def r_blocks_of (sp_pairs_of : DS1) : DTS := (dSeq (dAsg (dTup (dCons (dLst false dNil) (dCons (dC (.int 0)) (dCons (dC (.int 0)) (dCons (dC (.int 0)) dNil))))) (dgTup 4 (dgCons (dgName 2) (dgCons (dgName 3) (dgCons (dgName 4) (dgCons (dgName 5) dgNil)))))) (dSeq (dFor (dIt (dLst true (dStarA (dCall1 sp_pairs_of (dCons (dSlot 0) (dCons (dSlot 1) dNil))) (dCons (dTup (dCons (dCB rLen (dCons (dSlot 0) dNil)) (dCons (dCB rLen (dCons (dSlot 1) dNil)) dNil))) dNil)))) (dgTup 2 (dgCons (dgName 6) (dgCons (dgName 7) dgNil))) (dSeq (dIfS (dOrT (dB (dOp (rInt (fun _ _ => True) fun i j => .bl (decide (j < i))) (dSlot 6) (dSlot 3))) (dB (dOp (rInt (fun _ _ => True) fun i j => .bl (decide (j < i))) (dSlot 7) (dSlot 4)))) (dSeq (dIfS (dB (dOp (rInt (fun _ _ => True) fun i j => .bl (decide (j < i))) (dSlot 5) (dC (.int 0)))) (dDrop (dAppend (dSlot 2) (dTup (dCons (dC v_KEEP) (dCons (dSlot 5) dNil))))) dNext) (dSeq (dDrop (dAppend (dSlot 2) (dTup (dCons (dC v_TURN) (dCons (dSl true (dSlot 0) (dPart (dSlot 3)) (dPart (dSlot 6))) (dCons (dSl true (dSlot 1) (dPart (dSlot 4)) (dPart (dSlot 7))) dNil)))))) (dAsg (dC (.int 0)) (dgName 5)))) dNext) (dPar3 5 3 4 (dCons (dOp (rAddD true) (dSlot 5) (dC (.int 1))) (dCons (dOp (rAddD true) (dSlot 6) (dC (.int 1))) (dCons (dOp (rAddD true) (dSlot 7) (dC (.int 1))) dNil)))))) (dRet (dIf (dB (dOp (rInt (fun _ _ => True) fun i j => .bl (decide (j < i))) (dSlot 5) (dC (.int 1)))) (dLst true (dStarA (dSlot 2) (dCons (dTup (dCons (dC v_KEEP) (dCons (dOp (rInt (fun _ _ => True) fun i j => .int (i - j)) (dSlot 5) (dC (.int 1))) dNil))) dNil))) (dSlot 2)))))
abbrev st_changes : Stmt := topS 21
abbrev N_changes : List Str := ["one", "other"]
theorem sc_changes : FnScope N_changes ["one", "other"] (defScope st_changes) := ⟨rfl, rfl, rfl, by decide +kernel, rfl, by decide +kernel, by decide +kernel⟩
def r_changes (E1 : DXK) (sp_check_row : DSp) (sp_blocks_of : DS1) : DTS := (dSeq (dDrop (dCallE sp_check_row (dCons (dSlot 0) dNil) E1)) (dSeq (dDrop (dCallE sp_check_row (dCons (dSlot 1) dNil) E1)) (dRet (dCB rTupD (dCons (dCall1 sp_blocks_of (dCons (dSlot 0) (dCons (dSlot 1) dNil))) dNil)))))
abbrev st_changed : Stmt := topS 22
abbrev N_changed : List Str := ["row", "value", "block", "found", "here"]
theorem sc_changed : FnScope N_changed ["row", "value"] (defScope st_changed) := ⟨rfl, rfl, rfl, by decide +kernel, rfl, by decide +kernel, by decide +kernel⟩
def r_changed (E1 : DXK) (sp_check_row : DSp) (sp_is_changes : DS1) : DTS := (dSeq (dDrop (dCallE sp_check_row (dCons (dSlot 0) dNil) E1)) (dSeq (dIfS (dNotT (dB (dCall1 sp_is_changes (dCons (dSlot 1) dNil)))) (dRaise "BadRow" (dSlot 1) E1) dNext) (dSeq (dPar 3 4 (dCons (dLst false dNil) (dCons (dC (.int 0)) dNil))) (dSeq (dFor (dIt (dSlot 1)) (dgName 2) (dIfS (dB (dOp (rEqD2 false) (dOp rIxD (dSlot 2) (dC (.int 0))) (dC v_KEEP))) (dSeq (dIfS (dB (dOp (rInt (fun _ _ => True) fun i j => .bl (decide (j < i))) (dOp (rAddD true) (dSlot 4) (dOp rIxD (dSlot 2) (dC (.int 1)))) (dCB rLen (dCons (dSlot 0) dNil)))) (dRaise "BadRow" (dSlot 1) E1) dNext) (dSeq (dDrop (dExtendT (dSlot 3) (dSl true (dSlot 0) (dPart (dSlot 4)) (dPart (dOp (rAddD true) (dSlot 4) (dOp rIxD (dSlot 2) (dC (.int 1)))))))) (dAsg (dOp (rAddD true) (dSlot 4) (dOp rIxD (dSlot 2) (dC (.int 1)))) (dgName 4)))) (dSeq (dIfS (dB (dOp (rEqD2 true) (dSl true (dSlot 0) (dPart (dSlot 4)) (dPart (dOp (rAddD true) (dSlot 4) (dCB rLen (dCons (dOp rIxD (dSlot 2) (dC (.int 1))) dNil))))) (dOp rIxD (dSlot 2) (dC (.int 1))))) (dRaise "BadRow" (dSlot 1) E1) dNext) (dSeq (dDrop (dExtendT (dSlot 3) (dOp rIxD (dSlot 2) (dC (.int 2))))) (dAsg (dOp (rAddD true) (dSlot 4) (dCB rLen (dCons (dOp rIxD (dSlot 2) (dC (.int 1))) dNil))) (dgName 4)))))) (dSeq (dIfS (dB (dOp (rEqD2 true) (dSlot 4) (dCB rLen (dCons (dSlot 0) dNil)))) (dRaise "BadRow" (dSlot 1) E1) dNext) (dRet (dCB rTupD (dCons (dSlot 3) dNil))))))))
abbrev st_is_block : Stmt := topS 23
abbrev N_is_block : List Str := ["value", "text", "part"]
theorem sc_is_block : FnScope N_is_block ["value"] (defScope st_is_block) := ⟨rfl, rfl, rfl, by decide +kernel, rfl, by decide +kernel, by decide +kernel⟩
def r_is_block (sp_is_tuple : DS1) (sp_is_text : DS1) : DTS := (dSeq (dIfS (dOrT (dNotT (dB (dCall1 sp_is_tuple (dCons (dSlot 0) (dCons (dC (.int 2)) (dCons (dC (.int 3)) dNil)))))) (dNotT (dB (dIsi "str" (dOp rIxD (dSlot 0) (dC (.int 0))))))) (dRet (dC (.bl false))) dNext) (dSeq (dIfS (dB (dOp (rEqD2 false) (dOp rIxD (dSlot 0) (dC (.int 0))) (dC v_KEEP))) (dRet (dAndV (dOp (rEqD2 false) (dCB rLen (dCons (dSlot 0) dNil)) (dC (.int 2))) (dAndV (dIsi "int" (dOp rIxD (dSlot 0) (dC (.int 1)))) (dAndV (dNotV (dIsi "bool" (dOp rIxD (dSlot 0) (dC (.int 1))))) (dOp (rInt (fun _ _ => True) fun i j => .bl (decide (j < i))) (dOp rIxD (dSlot 0) (dC (.int 1))) (dC (.int 0))))))) dNext) (dSeq (dIfS (dOrT (dB (dOp (rEqD2 true) (dOp rIxD (dSlot 0) (dC (.int 0))) (dC v_TURN))) (dOrT (dB (dOp (rEqD2 true) (dCB rLen (dCons (dSlot 0) dNil)) (dC (.int 3)))) (dNotT (dB (dCB rAllD (dCons (dLc true (dIt (dSl true (dSlot 0) (dPart (dC (.int 1))) dNoPart)) (dgName 2) dYes (dCall1 sp_is_tuple (dCons (dSlot 2) (dCons (dC (.int 0)) (dCons (dC v_MOST_ROW) dNil)))) [2]) dNil)))))) (dRet (dC (.bl false))) dNext) (dRet (dCB rAllD (dCons (dLc true (dIt (dTup (dStarA (dOp rIxD (dSlot 0) (dC (.int 1))) (dStarA (dOp rIxD (dSlot 0) (dC (.int 2))) dNil)))) (dgName 1) dYes (dCall1 sp_is_text (dCons (dSlot 1) (dCons (dC v_MOST_PIECE) dNil))) [1]) dNil))))))
abbrev st_is_changes : Stmt := topS 24
abbrev N_is_changes : List Str := ["value", "block"]
theorem sc_is_changes : FnScope N_is_changes ["value"] (defScope st_is_changes) := ⟨rfl, rfl, rfl, by decide +kernel, rfl, by decide +kernel, by decide +kernel⟩
def r_is_changes (sp_is_block : DS1) (sp_is_tuple : DS1) : DTS := (dRet (dAndV (dCall1 sp_is_tuple (dCons (dSlot 0) (dCons (dC (.int 0)) (dCons (dOp (rAddD true) (dOp (rMulD true) (dC (.int 2)) (dC v_MOST_ROW)) (dC (.int 1))) dNil)))) (dCB rAllD (dCons (dLc true (dIt (dSlot 0)) (dgName 1) dYes (dCall1 sp_is_block (dCons (dSlot 1) dNil)) [1]) dNil))))
abbrev st_stable_places : Stmt := topS 25
abbrev N_stable_places : List Str := ["base", "one", "other", "found", "first", "last", "place", "at"]
theorem sc_stable_places : FnScope N_stable_places ["base", "one", "other"] (defScope st_stable_places) := ⟨rfl, rfl, rfl, by decide +kernel, rfl, by decide +kernel, by decide +kernel⟩
def r_stable_places (sp_pairs_of : DS1) : DTS := (dSeq (dAsg (dTup (dCons (dDc (dIt (dCall1 sp_pairs_of (dCons (dSlot 0) (dCons (dSlot 1) dNil)))) (dgTup 2 (dgCons (dgName 6) (dgCons (dgName 7) dgNil))) dYes (dSlot 6) (dSlot 7) [6, 7]) (dCons (dDc (dIt (dCall1 sp_pairs_of (dCons (dSlot 0) (dCons (dSlot 2) dNil)))) (dgTup 2 (dgCons (dgName 6) (dgCons (dgName 7) dgNil))) dYes (dSlot 6) (dSlot 7) [6, 7]) dNil))) (dgTup 2 (dgCons (dgName 4) (dgCons (dgName 5) dgNil)))) (dSeq (dAsg (dLc true (dRange1 (dCB rLen (dCons (dSlot 0) dNil))) (dgName 6) (dAndT (dB (dOp rInDc (dSlot 6) (dSlot 4))) (dB (dOp rInDc (dSlot 6) (dSlot 5)))) (dTup (dCons (dSlot 6) (dCons (dOp rGetDc (dSlot 4) (dSlot 6)) (dCons (dOp rGetDc (dSlot 5) (dSlot 6)) dNil)))) [6]) (dgName 3)) (dRet (dLst true (dStarA (dSlot 3) (dCons (dTup (dCons (dCB rLen (dCons (dSlot 0) dNil)) (dCons (dCB rLen (dCons (dSlot 1) dNil)) (dCons (dCB rLen (dCons (dSlot 2) dNil)) dNil)))) dNil))))))
abbrev st_taken_of : Stmt := topS 26
abbrev N_taken_of : List Str := ["parts", "base", "one", "other"]
theorem sc_taken_of : FnScope N_taken_of ["parts"] (defScope st_taken_of) := ⟨rfl, rfl, rfl, by decide +kernel, rfl, by decide +kernel, by decide +kernel⟩
def r_taken_of : DTS := (dSeq (dAsg (dSlot 0) (dgTup 3 (dgCons (dgName 1) (dgCons (dgName 2) (dgCons (dgName 3) dgNil))))) (dSeq (dIfS (dB (dOp (rEqD2 false) (dSlot 2) (dSlot 1))) (dRet (dSlot 3)) dNext) (dRet (dIf (dB (dOp (rInTD false) (dSlot 3) (dTup (dCons (dSlot 1) (dCons (dSlot 2) dNil))))) (dSlot 2) (dC .non)))))
abbrev st_merged_rows : Stmt := topS 27
abbrev N_merged_rows : List Str := ["base", "one", "other", "places", "found", "clashes", "here", "parts", "taken"]
theorem sc_merged_rows : FnScope N_merged_rows ["base", "one", "other"] (defScope st_merged_rows) := ⟨rfl, rfl, rfl, by decide +kernel, rfl, by decide +kernel, by decide +kernel⟩
def r_merged_rows (sp_stable_places : DS1) (sp_taken_of : DS1) : DTS := (dSeq (dPar3 4 5 6 (dCons (dLst false dNil) (dCons (dLst false dNil) (dCons (dTup (dCons (dC (.int 0)) (dCons (dC (.int 0)) (dCons (dC (.int 0)) dNil)))) dNil)))) (dSeq (dFor (dIt (dCall1 sp_stable_places (dCons (dSlot 0) (dCons (dSlot 1) (dCons (dSlot 2) dNil))))) (dgName 3) (dSeq (dAsg (dTup (dCons (dSl true (dSlot 0) (dPart (dOp rIxD (dSlot 6) (dC (.int 0)))) (dPart (dOp rIxD (dSlot 3) (dC (.int 0))))) (dCons (dSl true (dSlot 1) (dPart (dOp rIxD (dSlot 6) (dC (.int 1)))) (dPart (dOp rIxD (dSlot 3) (dC (.int 1))))) (dCons (dSl true (dSlot 2) (dPart (dOp rIxD (dSlot 6) (dC (.int 2)))) (dPart (dOp rIxD (dSlot 3) (dC (.int 2))))) dNil)))) (dgName 7)) (dSeq (dAsg (dCall1 sp_taken_of (dCons (dSlot 7) dNil)) (dgName 8)) (dSeq (dIfS (dB (dOp (rIsN false) (dSlot 8) (dC .non))) (dDrop (dAppend (dSlot 5) (dTup (dCons (dOp rIxD (dSlot 6) (dC (.int 0))) (dCons (dOp rIxD (dSlot 3) (dC (.int 0))) (dCons (dOp rIxD (dSlot 7) (dC (.int 1))) (dCons (dOp rIxD (dSlot 7) (dC (.int 2))) dNil))))))) (dDrop (dExtendT (dSlot 4) (dSlot 8)))) (dSeq (dDrop (dExtendT (dSlot 4) (dSl true (dSlot 0) (dPart (dOp rIxD (dSlot 3) (dC (.int 0)))) (dPart (dOp (rAddD true) (dOp rIxD (dSlot 3) (dC (.int 0))) (dC (.int 1))))))) (dAsg (dTup (dCons (dOp (rAddD true) (dOp rIxD (dSlot 3) (dC (.int 0))) (dC (.int 1))) (dCons (dOp (rAddD true) (dOp rIxD (dSlot 3) (dC (.int 1))) (dC (.int 1))) (dCons (dOp (rAddD true) (dOp rIxD (dSlot 3) (dC (.int 2))) (dC (.int 1))) dNil)))) (dgName 6))))))) (dRet (dTup (dCons (dCB rTupD (dCons (dSlot 4) dNil)) (dCons (dCB rTupD (dCons (dSlot 5) dNil)) dNil))))))
abbrev st_merged : Stmt := topS 28
abbrev N_merged : List Str := ["base", "one", "other", "row", "clashes"]
theorem sc_merged : FnScope N_merged ["base", "one", "other"] (defScope st_merged) := ⟨rfl, rfl, rfl, by decide +kernel, rfl, by decide +kernel, by decide +kernel⟩
def r_merged (E1 : DXK) (sp_check_row : DSp) (sp_merged_rows : DS1) : DTS := (dSeq (dDrop (dCallE sp_check_row (dCons (dSlot 0) dNil) E1)) (dSeq (dDrop (dCallE sp_check_row (dCons (dSlot 1) dNil) E1)) (dSeq (dDrop (dCallE sp_check_row (dCons (dSlot 2) dNil) E1)) (dSeq (dAsg (dCall1 sp_merged_rows (dCons (dSlot 0) (dCons (dSlot 1) (dCons (dSlot 2) dNil)))) (dgTup 2 (dgCons (dgName 3) (dgCons (dgName 4) dgNil)))) (dRet (dIf (dB (dOp (rEqD2 false) (dSlot 4) (dTup dNil))) (dTup (dCons (dC v_MERGED) (dCons (dSlot 3) dNil))) (dTup (dCons (dC v_CLASH) (dCons (dSlot 4) dNil)))))))))
abbrev st__law_pot : Stmt := topS 30
abbrev N__law_pot : List Str := ["script", "place", "cell", "own", "small"]
theorem sc__law_pot : FnScope N__law_pot ["script", "place"] (defScope st__law_pot) := ⟨rfl, rfl, rfl, by decide +kernel, rfl, by decide +kernel, by decide +kernel⟩
def r__law_pot : DTS := (dSeq (dAsg (dIf (dB (dOp rLtD (dSlot 1) (dCB rLen (dCons (dSlot 0) dNil)))) (dOp rIxD (dSlot 0) (dSlot 1)) (dOp (rAddD true) (dOp (rAddD true) (dOp (rInt (fun _ j => 0 < j) fun i j => .int (i % j)) (dCB rSumD (dCons (dSl true (dSlot 0) dNoPart (dPart (dC (.int 1)))) dNil)) (dC (.int 1000003))) (dOp (rMulD true) (dC (.int 13201)) (dSlot 1))) (dC (.int 521)))) (dgName 2)) (dSeq (dAsg (dOp (rMulD true) (dOp (rInt (fun _ j => 0 < j) fun i j => .int (i % j)) (dCB rIntD (dCons (dCB rAbsD (dCons (dSlot 2) dNil)) dNil)) (dOp rPowD (dOp rPowD (dC (.int 10)) (dC (.int 60))) (dC (.int 5)))) (dCB rIntD (dCons (dOp (rInt (fun _ _ => True) fun i j => .bl (decide (j ≤ i))) (dCB rAbsD (dCons (dSlot 2) dNil)) (dOp rPowD (dC (.int 10)) (dC (.int 18)))) dNil))) (dgName 3)) (dSeq (dAsg (dOp (rInt (fun _ j => 0 < j) fun i j => .int (i % j)) (dCB rIntD (dCons (dSlot 2) dNil)) (dC (.int 2305843009213693951))) (dgName 4)) (dRet (dLst false (dCons (dSlot 3) (dCons (dOp (rInt (fun _ j => 0 < j) fun i j => .int (i % j)) (dCB rIntD (dCons (dOp (rAddD true) (dOp (rAddD true) (dOp (rMulD true) (dSlot 4) (dC (.int 101179))) (dOp (rMulD true) (dOp (rMulD true) (dC (.int 17783)) (dSlot 1)) (dSlot 1))) (dC (.int 928))) dNil)) (dC (.int 2305843009213693921))) (dCons (dC (.int 0)) dNil))))))))
abbrev st__law_take : Stmt := topS 31
abbrev N__law_take : List Str := ["pot", "upto", "prime", "blend", "digit"]
theorem sc__law_take : FnScope N__law_take ["pot", "upto"] (defScope st__law_take) := ⟨rfl, rfl, rfl, by decide +kernel, rfl, by decide +kernel, by decide +kernel⟩
def r__law_take : DTS := (dSeq (dIfS (dB (dOp (rInt (fun _ _ => True) fun i j => .bl (decide (j < i))) (dOp rIxD (dSlot 0) (dC (.int 0))) (dC (.int 0)))) (dSeq (dAsg (dOp (rInt (fun _ j => 0 < j) fun i j => .int (i % j)) (dCB rIntD (dCons (dOp rIxD (dSlot 0) (dC (.int 0))) dNil)) (dSlot 1)) (dgName 4)) (dSeq (dAsg (dOp (rInt (fun _ j => 0 < j ∧ j.natAbs < 2 ^ 64) fun i j => .int (i / j)) (dOp rIxD (dSlot 0) (dC (.int 0))) (dSlot 1)) (dgSub (dSlot 0) (dC (.int 0)) rSetD)) (dRet (dSlot 4)))) dNext) (dSeq (dAsg (dOp (rAddD true) (dOp rIxD (dSlot 0) (dC (.int 2))) (dC (.int 1))) (dgSub (dSlot 0) (dC (.int 2)) rSetD)) (dSeq (dAsg (dOp rIxD (dLst true (dCons (dC (.int 2147483647)) (dCons (dC (.int 2147483629)) (dCons (dC (.int 2147483587)) (dCons (dC (.int 2147483579)) (dCons (dC (.int 2147483563)) dNil)))))) (dOp (rInt (fun _ j => 0 < j) fun i j => .int (i % j)) (dCB rIntD (dCons (dOp rIxD (dSlot 0) (dC (.int 2))) dNil)) (dC (.int 5)))) (dgName 2)) (dSeq (dAsg (dOp (rInt (fun _ j => 0 < j) fun i j => .int (i % j)) (dCB rIntD (dCons (dOp rPowD (dCB rIntD (dCons (dOp (rAddD true) (dOp (rAddD true) (dOp rIxD (dSlot 0) (dC (.int 1))) (dOp (rMulD true) (dOp (rMulD true) (dC (.int 97612)) (dOp rIxD (dSlot 0) (dC (.int 2)))) (dOp rIxD (dSlot 0) (dC (.int 2))))) (dC (.int 728))) dNil)) (dC (.int 3))) dNil)) (dSlot 2)) (dgName 3)) (dSeq (dAsg (dOp (rInt (fun _ j => 0 < j) fun i j => .int (i % j)) (dCB rIntD (dCons (dOp (rMulD true) (dSlot 3) (dOp (rAddD true) (dOp (rInt (fun _ j => 0 < j) fun i j => .int (i % j)) (dCB rIntD (dCons (dSlot 3) dNil)) (dC (.int 10259))) (dOp (rMulD true) (dC (.int 122)) (dOp rIxD (dSlot 0) (dC (.int 2)))))) dNil)) (dC (.int 2305843009213693907))) (dgName 3)) (dRet (dOp (rInt (fun _ j => 0 < j) fun i j => .int (i % j)) (dCB rIntD (dCons (dOp (rInt (fun _ j => 0 < j ∧ j.natAbs < 2 ^ 64) fun i j => .int (i / j)) (dSlot 3) (dC (.int 152))) dNil)) (dSlot 1))))))))
abbrev st__law_of : Stmt := topS 32
abbrev N__law_of : List Str := ["pot", "some"]
theorem sc__law_of : FnScope N__law_of ["pot", "some"] (defScope st__law_of) := ⟨rfl, rfl, rfl, by decide +kernel, rfl, by decide +kernel, by decide +kernel⟩
def r__law_of (sp__law_take : DS1) : DTS := (dRet (dOp rIxD (dSlot 1) (dCall1 sp__law_take (dCons (dSlot 0) (dCons (dCB rLen (dCons (dSlot 1) dNil)) dNil)))))
abbrev st__law_places : Stmt := topS 33
abbrev N__law_places : List Str := ["script", "most"]
theorem sc__law_places : FnScope N__law_places ["script", "most"] (defScope st__law_places) := ⟨rfl, rfl, rfl, by decide +kernel, rfl, by decide +kernel, by decide +kernel⟩
def r__law_places : DTS := (dRet (dListRg true (dCB rMax2D (dCons (dC (.int 1)) (dCons (dCB rMin2D (dCons (dSlot 1) (dCons (dCB rLen (dCons (dSlot 0) dNil)) dNil))) dNil)))))
abbrev st__law_odd : Stmt := topS 35
abbrev N__law_odd : List Str := ["pot", "some"]
theorem sc__law_odd : FnScope N__law_odd ["pot"] (defScope st__law_odd) := ⟨rfl, rfl, rfl, by decide +kernel, rfl, by decide +kernel, by decide +kernel⟩
def r__law_odd (sp__law_of : DS1) : DTS := (dSeq (dAsg (dLst true (dCons (dC .non) (dCons (dC (.bl true)) (dCons (dC (.bl false)) (dCons (dC (.int 0)) (dCons (dC (.int 1)) (dCons (dNeg (dC (.int 1))) (dCons (dC (.int 2)) (dCons (dC (.int 44)) (dCons (dC (.str "")) (dCons (dC (.str "a")) (dCons (dC (.str "A")) (dCons (dC (.str "text")) (dCons (dC (.str "copy")) (dCons (dTup dNil) (dCons (dLst true dNil) (dCons (dTup (dCons (dC (.int 0)) dNil)) (dCons (dTup (dCons (dTup dNil) dNil)) (dCons (dLst true (dCons (dC (.int 0)) dNil)) (dCons (dTup (dCons (dC (.str "a")) dNil)) dNil)))))))))))))))))))) (dgName 1)) (dSeq (dAsg (dOp (rAddD true) (dSlot 1) (dLst true (dCons (dTup (dCons (dC (.str "text")) (dCons (dC (.str "a")) dNil))) (dCons (dTup (dCons (dC (.str "copy")) (dCons (dTup (dCons (dC (.str "text")) (dCons (dC (.str "a")) dNil))) dNil))) (dCons (dTup (dCons (dC .non) dNil)) (dCons (dLst true (dCons (dC (.str "a")) dNil)) (dCons (dOp (rMulD true) (dC (.str "a")) (dC (.int 401))) (dCons (dC (.str "/")) (dCons (dTup (dCons (dC (.str "none")) dNil)) dNil))))))))) (dgName 1)) (dRet (dCall1 sp__law_of (dCons (dSlot 0) (dCons (dSlot 1) dNil))))))
abbrev st__law_is_int : Stmt := topS 36
abbrev N__law_is_int : List Str := ["value", "low", "high"]
theorem sc__law_is_int : FnScope N__law_is_int ["value", "low", "high"] (defScope st__law_is_int) := ⟨rfl, rfl, rfl, by decide +kernel, rfl, by decide +kernel, by decide +kernel⟩
def r__law_is_int : DTS := (dRet (dAndV (dIsi "int" (dSlot 0)) (dAndV (dNotV (dIsi "bool" (dSlot 0))) (dChain (rInt (fun _ _ => True) fun i j => .bl (decide (i ≤ j))) (rInt (fun _ _ => True) fun i j => .bl (decide (i ≤ j))) (dSlot 1) (dSlot 0) (dSlot 2)))))
abbrev st__law_bent : Stmt := topS 37
abbrev N__law_bent : List Str := ["pot", "value", "at", "some"]
theorem sc__law_bent : FnScope N__law_bent ["pot", "value"] (defScope st__law_bent) := ⟨rfl, rfl, rfl, by decide +kernel, rfl, by decide +kernel, by decide +kernel⟩
def r__law_bent (sp__law_take : DS1) (sp__law_bent : DS1) (sp__law_of : DS1) (sp__law_odd : DS1) : DTS := (dSeq (dIfS (dAndT (dB (dIsi "tuple" (dSlot 1))) (dAndT (dB (dOp (rEqD2 true) (dSlot 1) (dTup dNil))) (dB (dOp (rInt (fun _ _ => True) fun i j => .bl (decide (j < i))) (dCall1 sp__law_take (dCons (dSlot 0) (dCons (dC (.int 5)) dNil))) (dC (.int 0)))))) (dSeq (dAsg (dCall1 sp__law_take (dCons (dSlot 0) (dCons (dCB rLen (dCons (dSlot 1) dNil)) dNil))) (dgName 2)) (dRet (dOp (rAddD true) (dOp (rAddD true) (dSl true (dSlot 1) dNoPart (dPart (dSlot 2))) (dTup (dCons (dCall1 sp__law_bent (dCons (dSlot 0) (dCons (dOp rIxD (dSlot 1) (dSlot 2)) dNil))) dNil))) (dSl true (dSlot 1) (dPart (dOp (rAddD true) (dSlot 2) (dC (.int 1)))) dNoPart)))) dNext) (dSeq (dIfS (dB (dIsi "tuple" (dSlot 1))) (dRet (dCall1 sp__law_of (dCons (dSlot 0) (dCons (dLst true (dCons (dCB (rListD true) (dCons (dSlot 1) dNil)) (dCons (dSl true (dSlot 1) (dPart (dC (.int 1))) dNoPart) (dCons (dSl true (dSlot 1) dNoPart (dPart (dNeg (dC (.int 1))))) (dCons (dOp (rAddD true) (dSlot 1) (dSl true (dSlot 1) (dPart (dNeg (dC (.int 1)))) dNoPart)) (dCons (dRevS true (dSlot 1)) (dCons (dTup dNil) (dCons (dC .non) dNil)))))))) dNil)))) dNext) (dSeq (dIfS (dB (dIsi "bool" (dSlot 1))) (dRet (dCall1 sp__law_of (dCons (dSlot 0) (dCons (dLst true (dCons (dNotV (dSlot 1)) (dCons (dCB rIntD (dCons (dSlot 1) dNil)) (dCons (dC .non) dNil)))) dNil)))) dNext) (dSeq (dIfS (dB (dIsi "int" (dSlot 1))) (dRet (dCall1 sp__law_of (dCons (dSlot 0) (dCons (dLst true (dCons (dOp (rAddD true) (dSlot 1) (dC (.int 1))) (dCons (dOp (rInt (fun _ _ => True) fun i j => .int (i - j)) (dSlot 1) (dC (.int 1))) (dCons (dNeg (dSlot 1)) (dCons (dCB rStrD (dCons (dSlot 1) dNil)) (dCons (dC .non) (dCons (dOp (rEqD2 false) (dSlot 1) (dC (.int 1))) (dCons (dTup (dCons (dSlot 1) dNil)) dNil)))))))) dNil)))) dNext) (dSeq (dIfS (dB (dIsi "str" (dSlot 1))) (dSeq (dAsg (dLst true (dCons (dOp (rAddD true) (dSlot 1) (dC (.str "a"))) (dCons (dSl true (dSlot 1) dNoPart (dPart (dNeg (dC (.int 1))))) (dCons (dUpper (dSlot 1)) (dCons (dLst true (dCons (dSlot 1) dNil)) (dCons (dC (.str "a")) (dCons (dC .non) (dCons (dC (.int 0)) (dCons (dC (.str "")) (dCons (dOp (rAddD true) (dC (.str "b")) (dSlot 1)) (dCons (dOp (rAddD true) (dSlot 1) (dC (.str "/"))) dNil))))))))))) (dgName 3)) (dRet (dCall1 sp__law_of (dCons (dSlot 0) (dCons (dSlot 3) dNil))))) dNext) (dRet (dCall1 sp__law_odd (dCons (dSlot 0) dNil))))))))
abbrev st__law_signs : Stmt := topS 38
abbrev N__law_signs : List Str := []
theorem sc__law_signs : FnScope N__law_signs [] (defScope st__law_signs) := ⟨rfl, rfl, rfl, by decide +kernel, rfl, by decide +kernel, by decide +kernel⟩
def r__law_signs : DTS := (dRet (dC (.str "\x0a ,-.0123456789:;=abcdefghijklmnopqrstuvwxyz")))
abbrev st__law_is_text : Stmt := topS 39
abbrev N__law_is_text : List Str := ["value", "sign"]
theorem sc__law_is_text : FnScope N__law_is_text ["value"] (defScope st__law_is_text) := ⟨rfl, rfl, rfl, by decide +kernel, rfl, by decide +kernel, by decide +kernel⟩
def r__law_is_text (sp__law_signs : DS1) : DTS := (dRet (dAndV (dIsi "str" (dSlot 0)) (dCB rAllD (dCons (dLc true (dIt (dSlot 0)) (dgName 1) dYes (dOp (rInD false) (dSlot 1) (dCall1 sp__law_signs dNil)) [1]) dNil))))
abbrev st__law_rows : Stmt := topS 40
abbrev N__law_rows : List Str := ["pot", "signs", "most", "lap"]
theorem sc__law_rows : FnScope N__law_rows ["pot", "signs", "most"] (defScope st__law_rows) := ⟨rfl, rfl, rfl, by decide +kernel, rfl, by decide +kernel, by decide +kernel⟩
def r__law_rows (sp__law_take : DS1) (sp__law_of : DS1) : DTS := (dRet (dCB rTupD (dCons (dLc true (dRange1 (dCall1 sp__law_take (dCons (dSlot 0) (dCons (dOp (rAddD true) (dSlot 2) (dC (.int 1))) dNil)))) (dgName 3) dYes (dCall1 sp__law_of (dCons (dSlot 0) (dCons (dSlot 1) dNil))) [3]) dNil)))
abbrev st__law_edited : Stmt := topS 41
abbrev N__law_edited : List Str := ["pot", "row", "found", "lap", "at", "way"]
theorem sc__law_edited : FnScope N__law_edited ["pot", "row"] (defScope st__law_edited) := ⟨rfl, rfl, rfl, by decide +kernel, rfl, by decide +kernel, by decide +kernel⟩
def r__law_edited (sp__law_take : DS1) (sp__law_of : DS1) : DTS := (dSeq (dAsg (dCB (rListD false) (dCons (dSlot 1) dNil)) (dgName 2)) (dSeq (dFor (dRange1 (dCall1 sp__law_take (dCons (dSlot 0) (dCons (dC (.int 4)) dNil)))) (dgName 3) (dSeq (dPar 4 5 (dCons (dCall1 sp__law_take (dCons (dSlot 0) (dCons (dOp (rAddD true) (dCB rLen (dCons (dSlot 2) dNil)) (dC (.int 1))) dNil))) (dCons (dCall1 sp__law_take (dCons (dSlot 0) (dCons (dC (.int 3)) dNil))) dNil))) (dIfS (dB (dOp (rEqD2 false) (dSlot 5) (dC (.int 0)))) (dDrop (dInsert (dSlot 2) (dSlot 4) (dCall1 sp__law_of (dCons (dSlot 0) (dCons (dLst true (dCons (dC (.str "a")) (dCons (dC (.str "b")) (dCons (dC (.str "x")) (dCons (dC (.str "")) dNil))))) dNil))))) (dIfS (dAndT (dB (dOp rLtD (dSlot 4) (dCB rLen (dCons (dSlot 2) dNil)))) (dB (dOp (rEqD2 false) (dSlot 5) (dC (.int 1))))) (dDrop (dPopAt (dSlot 2) (dSlot 4))) (dIfS (dB (dOp rLtD (dSlot 4) (dCB rLen (dCons (dSlot 2) dNil)))) (dAsg (dCall1 sp__law_of (dCons (dSlot 0) (dCons (dLst true (dCons (dC (.str "a")) (dCons (dC (.str "b")) (dCons (dC (.str "x")) (dCons (dC (.str "y")) dNil))))) dNil))) (dgSub (dSlot 2) (dSlot 4) rSetD)) dNext))))) (dRet (dCB rTupD (dCons (dSlot 2) dNil)))))
abbrev st__law_common : Stmt := topS 42
abbrev N__law_common : List Str := ["one", "other", "level", "later", "pairs", "begin", "place", "some", "at"]
theorem sc__law_common : FnScope N__law_common ["one", "other"] (defScope st__law_common) := ⟨rfl, rfl, rfl, by decide +kernel, rfl, by decide +kernel, by decide +kernel⟩
def r__law_common : DTS := (dSeq (dAsg (dLst false (dCons (dTupX dNil) dNil)) (dgName 2)) (dWhile (dB (dC (.bl true))) (dSeq (dAsg (dLst false dNil) (dgName 3)) (dSeq (dFor (dIt (dSlot 2)) (dgName 4) (dSeq (dAsg (dIf (dB (dOp (rEqD2 true) (dSlot 4) (dTupX dNil))) (dOp rIxD (dSlot 4) (dNeg (dC (.int 1)))) (dTupX (dCons (dNeg (dC (.int 1))) (dCons (dNeg (dC (.int 1))) dNil)))) (dgName 5)) (dFor (dRange2 (dOp (rAddX true) (dOp rIxD (dSlot 5) (dC (.int 0))) (dC (.int 1))) (dCB rLen (dCons (dSlot 0) dNil))) (dgName 6) (dSeq (dAsg (dLc true (dRange2 (dOp (rAddX true) (dOp rIxD (dSlot 5) (dC (.int 1))) (dC (.int 1))) (dCB rLen (dCons (dSlot 1) dNil))) (dgName 8) (dB (dOp (rEqD2 false) (dOp rIxD (dSlot 0) (dSlot 6)) (dOp rIxD (dSlot 1) (dSlot 8)))) (dSlot 8) [8]) (dgName 7)) (dDrop (dExtendT (dSlot 3) (dLc true (dIt (dSlot 7)) (dgName 8) dYes (dOp (rAddX true) (dSlot 4) (dTupX (dCons (dTupX (dCons (dSlot 6) (dCons (dSlot 8) dNil))) dNil))) [8]))))))) (dSeq (dIfS (dB (dOp (rEqD2 false) (dSlot 3) (dLst true dNil))) (dRet (dCB rMinPD (dCons (dSlot 2) dNil))) dNext) (dAsg (dSlot 3) (dgName 2)))))))
abbrev st__law_merged : Stmt := topS 43
abbrev N__law_merged : List Str := ["base", "one", "other", "held", "first", "last", "row", "clashes", "before", "now", "parts", "at", "whole", "begin", "end"]
theorem sc__law_merged : FnScope N__law_merged ["base", "one", "other"] (defScope st__law_merged) := ⟨rfl, rfl, rfl, by decide +kernel, rfl, by decide +kernel, by decide +kernel⟩
def r__law_merged (sp__law_common : DS1) : DTS := (dSeq (dAsg (dTup (dCons (dCB rDictT (dCons (dCall1 sp__law_common (dCons (dSlot 0) (dCons (dSlot 1) dNil))) dNil)) (dCons (dCB rDictT (dCons (dCall1 sp__law_common (dCons (dSlot 0) (dCons (dSlot 2) dNil))) dNil)) dNil))) (dgTup 2 (dgCons (dgName 4) (dgCons (dgName 5) dgNil)))) (dSeq (dAsg (dOp (rAddD false) (dLst true (dCons (dTup (dCons (dNeg (dC (.int 1))) (dCons (dNeg (dC (.int 1))) (dCons (dNeg (dC (.int 1))) dNil)))) dNil)) (dLc true (dIt (dCB (rSortDc true) (dCons (dSlot 4) dNil))) (dgName 11) (dB (dOp rInDc (dSlot 11) (dSlot 5))) (dTup (dCons (dSlot 11) (dCons (dOp rGetDc (dSlot 4) (dSlot 11)) (dCons (dOp rGetDc (dSlot 5) (dSlot 11)) dNil)))) [11])) (dgName 3)) (dSeq (dDrop (dAppend (dSlot 3) (dTup (dCons (dCB rLen (dCons (dSlot 0) dNil)) (dCons (dCB rLen (dCons (dSlot 1) dNil)) (dCons (dCB rLen (dCons (dSlot 2) dNil)) dNil)))))) (dSeq (dPar 6 7 (dCons (dLst false dNil) (dCons (dLst false dNil) dNil))) (dSeq (dFor (dZipL (dSlot 3) (dSl true (dSlot 3) (dPart (dC (.int 1))) dNoPart)) (dgTup 2 (dgCons (dgName 8) (dgCons (dgName 9) dgNil))) (dSeq (dAsg (dLc true (dZip3 (dTup (dCons (dSlot 0) (dCons (dSlot 1) (dCons (dSlot 2) dNil)))) (dSlot 8) (dSlot 9)) (dgTup 3 (dgCons (dgName 12) (dgCons (dgName 13) (dgCons (dgName 14) dgNil)))) dYes (dSl true (dSlot 12) (dPart (dOp (rAddD true) (dSlot 13) (dC (.int 1)))) (dPart (dSlot 14))) [12, 13, 14]) (dgName 10)) (dSeq (dIfS (dB (dOp (rEqD2 false) (dOp rIxD (dSlot 10) (dC (.int 1))) (dOp rIxD (dSlot 10) (dC (.int 0))))) (dDrop (dExtendT (dSlot 6) (dOp rIxD (dSlot 10) (dC (.int 2))))) (dIfS (dOrT (dB (dOp (rEqD2 false) (dOp rIxD (dSlot 10) (dC (.int 2))) (dOp rIxD (dSlot 10) (dC (.int 0))))) (dB (dOp (rEqD2 false) (dOp rIxD (dSlot 10) (dC (.int 1))) (dOp rIxD (dSlot 10) (dC (.int 2)))))) (dDrop (dExtendT (dSlot 6) (dOp rIxD (dSlot 10) (dC (.int 1))))) (dDrop (dAppend (dSlot 7) (dTup (dCons (dOp (rAddD true) (dOp rIxD (dSlot 8) (dC (.int 0))) (dC (.int 1))) (dCons (dOp rIxD (dSlot 9) (dC (.int 0))) (dCons (dOp rIxD (dSlot 10) (dC (.int 1))) (dCons (dOp rIxD (dSlot 10) (dC (.int 2))) dNil))))))))) (dDrop (dExtendT (dSlot 6) (dSl true (dSlot 0) (dPart (dOp rIxD (dSlot 9) (dC (.int 0)))) (dPart (dOp (rAddD true) (dOp rIxD (dSlot 9) (dC (.int 0))) (dC (.int 1)))))))))) (dRet (dIf (dB (dOp (rEqD2 false) (dSlot 7) (dLst true dNil))) (dTup (dCons (dC (.str "merged")) (dCons (dCB rTupD (dCons (dSlot 6) dNil)) dNil))) (dTup (dCons (dC (.str "clash")) (dCons (dCB rTupD (dCons (dSlot 7) dNil)) dNil))))))))))
abbrev st__law_blocks : Stmt := topS 44
abbrev N__law_blocks : List Str := ["one", "other", "pair", "pairs", "found", "before", "kept", "out", "more"]
theorem sc__law_blocks : FnScope N__law_blocks ["one", "other"] (defScope st__law_blocks) := ⟨rfl, rfl, rfl, by decide +kernel, rfl, by decide +kernel, by decide +kernel⟩
def r__law_blocks (sp__law_common : DS1) : DTS := (dSeq (dAsg (dTup (dCons (dCall1 sp__law_common (dCons (dSlot 0) (dCons (dSlot 1) dNil))) (dCons (dLst false dNil) (dCons (dTupX (dCons (dNeg (dC (.int 1))) (dCons (dNeg (dC (.int 1))) dNil))) (dCons (dC (.int 0)) dNil))))) (dgTup 4 (dgCons (dgName 3) (dgCons (dgName 4) (dgCons (dgName 5) (dgCons (dgName 6) dgNil)))))) (dSeq (dFor (dIt (dOp (rAddX true) (dSlot 3) (dTupX (dCons (dTupX (dCons (dCB rLen (dCons (dSlot 0) dNil)) (dCons (dCB rLen (dCons (dSlot 1) dNil)) dNil))) dNil)))) (dgName 2) (dSeq (dPar 7 8 (dCons (dSl true (dSlot 0) (dPart (dOp (rAddX true) (dOp rIxD (dSlot 5) (dC (.int 0))) (dC (.int 1)))) (dPart (dOp rIxD (dSlot 2) (dC (.int 0))))) (dCons (dSl true (dSlot 1) (dPart (dOp (rAddX true) (dOp rIxD (dSlot 5) (dC (.int 1))) (dC (.int 1)))) (dPart (dOp rIxD (dSlot 2) (dC (.int 1))))) dNil))) (dSeq (dIfS (dOrT (dB (dOp (rEqD2 true) (dSlot 7) (dTupX dNil))) (dB (dOp (rEqD2 true) (dSlot 8) (dTupX dNil)))) (dSeq (dDrop (dExtendT (dSlot 4) (dIf (dB (dOp (rInt (fun _ _ => True) fun i j => .bl (decide (j < i))) (dSlot 6) (dC (.int 0)))) (dLst true (dCons (dTupX (dCons (dC (.str "keep")) (dCons (dSlot 6) dNil))) dNil)) (dLst true dNil)))) (dSeq (dDrop (dAppend (dSlot 4) (dTupX (dCons (dC (.str "turn")) (dCons (dSlot 7) (dCons (dSlot 8) dNil)))))) (dAsg (dC (.int 0)) (dgName 6)))) dNext) (dPar 5 6 (dCons (dSlot 2) (dCons (dOp (rAddX true) (dSlot 6) (dC (.int 1))) dNil)))))) (dRet (dCB rTupD (dCons (dOp (rAddX true) (dSlot 4) (dIf (dB (dOp (rInt (fun _ _ => True) fun i j => .bl (decide (j < i))) (dSlot 6) (dC (.int 1)))) (dLst true (dCons (dTupX (dCons (dC (.str "keep")) (dCons (dOp (rInt (fun _ _ => True) fun i j => .int (i - j)) (dSlot 6) (dC (.int 1))) dNil))) dNil)) (dLst true dNil))) dNil)))))
abbrev st__law_is_changed : Stmt := topS 45
abbrev N__law_is_changed : List Str := ["row", "value", "block", "found", "here", "part"]
theorem sc__law_is_changed : FnScope N__law_is_changed ["row", "value"] (defScope st__law_is_changed) := ⟨rfl, rfl, rfl, by decide +kernel, rfl, by decide +kernel, by decide +kernel⟩
def r__law_is_changed (sp__law_is_int : DS1) (sp__law_is_row : DS1) : DTS := (dSeq (dIfS (dOrT (dNotT (dB (dIsi "tuple" (dSlot 1)))) (dB (dOp (rInt (fun _ _ => True) fun i j => .bl (decide (j < i))) (dCB rLen (dCons (dSlot 1) dNil)) (dC (.int 81))))) (dRet (dTup (dCons (dC (.bl false)) (dCons (dTup dNil) dNil)))) dNext) (dSeq (dAsg (dTup (dCons (dTup dNil) (dCons (dC (.int 0)) dNil))) (dgTup 2 (dgCons (dgName 3) (dgCons (dgName 4) dgNil)))) (dSeq (dFor (dIt (dSlot 1)) (dgName 2) (dSeq (dIfS (dOrT (dNotT (dB (dIsi "tuple" (dSlot 2)))) (dOrT (dB (dOp (rInD true) (dCB rLen (dCons (dSlot 2) dNil)) (dTup (dCons (dC (.int 2)) (dCons (dC (.int 3)) dNil))))) (dNotT (dB (dIsi "str" (dOp rIxD (dSlot 2) (dC (.int 0)))))))) (dRet (dTup (dCons (dC (.bl false)) (dCons (dTup dNil) dNil)))) dNext) (dIfS (dB (dOp (rEqD2 false) (dCB rLen (dCons (dSlot 2) dNil)) (dC (.int 2)))) (dSeq (dIfS (dOrT (dB (dOp (rEqD2 true) (dOp rIxD (dSlot 2) (dC (.int 0))) (dC (.str "keep")))) (dNotT (dB (dCall1 sp__law_is_int (dCons (dOp rIxD (dSlot 2) (dC (.int 1))) (dCons (dC (.int 1)) (dCons (dOp (rInt (fun _ _ => True) fun i j => .int (i - j)) (dCB rLen (dCons (dSlot 0) dNil)) (dSlot 4)) dNil))))))) (dRet (dTup (dCons (dC (.bl false)) (dCons (dTup dNil) dNil)))) dNext) (dPar 3 4 (dCons (dOp (rAddD true) (dSlot 3) (dSl true (dSlot 0) (dPart (dSlot 4)) (dPart (dOp (rAddD true) (dSlot 4) (dOp rIxD (dSlot 2) (dC (.int 1))))))) (dCons (dOp (rAddD true) (dSlot 4) (dOp rIxD (dSlot 2) (dC (.int 1)))) dNil)))) (dSeq (dIfS (dOrT (dB (dOp (rEqD2 true) (dOp rIxD (dSlot 2) (dC (.int 0))) (dC (.str "turn")))) (dNotT (dB (dCB rAllD (dCons (dLc true (dIt (dSl true (dSlot 2) (dPart (dC (.int 1))) dNoPart)) (dgName 5) dYes (dCall1 sp__law_is_row (dCons (dSlot 5) dNil)) [5]) dNil))))) (dRet (dTup (dCons (dC (.bl false)) (dCons (dTup dNil) dNil)))) dNext) (dSeq (dIfS (dB (dOp (rEqD2 true) (dSl true (dSlot 0) (dPart (dSlot 4)) (dPart (dOp (rAddD true) (dSlot 4) (dCB rLen (dCons (dOp rIxD (dSlot 2) (dC (.int 1))) dNil))))) (dOp rIxD (dSlot 2) (dC (.int 1))))) (dRet (dTup (dCons (dC (.bl false)) (dCons (dTup dNil) dNil)))) dNext) (dPar 3 4 (dCons (dOp (rAddD true) (dSlot 3) (dOp rIxD (dSlot 2) (dC (.int 2)))) (dCons (dOp (rAddD true) (dSlot 4) (dCB rLen (dCons (dOp rIxD (dSlot 2) (dC (.int 1))) dNil))) dNil)))))))) (dRet (dTup (dCons (dOp (rEqD2 false) (dSlot 4) (dCB rLen (dCons (dSlot 0) dNil))) (dCons (dSlot 3) dNil)))))))
abbrev st__law_is_row : Stmt := topS 46
abbrev N__law_is_row : List Str := ["value", "text"]
theorem sc__law_is_row : FnScope N__law_is_row ["value"] (defScope st__law_is_row) := ⟨rfl, rfl, rfl, by decide +kernel, rfl, by decide +kernel, by decide +kernel⟩
def r__law_is_row (sp__law_is_text : DS1) : DTS := (dSeq (dIfS (dOrT (dNotT (dB (dIsi "tuple" (dSlot 0)))) (dB (dOp (rInt (fun _ _ => True) fun i j => .bl (decide (j < i))) (dCB rLen (dCons (dSlot 0) dNil)) (dC (.int 40))))) (dRet (dC (.bl false))) dNext) (dRet (dCB rAllD (dCons (dLc true (dIt (dSlot 0)) (dgName 1) dYes (dAndV (dCall1 sp__law_is_text (dCons (dSlot 1) dNil)) (dOp rLtD (dCB rLen (dCons (dSlot 1) dNil)) (dC (.int 101)))) [1]) dNil))))
abbrev st__law_right : Stmt := topS 47
abbrev N__law_right : List Str := ["pot", "base", "one", "other", "told", "value", "back", "plain", "can", "due", "caught", "found", "lap", "row", "begin", "end", "mine", "its"]
theorem sc__law_right : FnScope N__law_right ["pot"] (defScope st__law_right) := ⟨rfl, rfl, rfl, by decide +kernel, rfl, by decide +kernel, by decide +kernel⟩
def r__law_right (sp__law_rows : DS1) (sp__law_take : DS1) (sp__law_edited : DS1) (sp_common : DSp) (sp__law_common : DS1) (sp_changes : DSp) (sp__law_blocks : DS1) (sp_changed : DSp) (sp__law_odd : DS1) (sp__law_bent : DS1) (sp__law_is_changed : DS1) (sp_merged : DSp) (sp__law_merged : DS1) : DTS := (dSeq (dAsg (dCall1 sp__law_rows (dCons (dSlot 0) (dCons (dLst true (dCons (dC (.str "a")) (dCons (dC (.str "b")) (dCons (dC (.str "a")) (dCons (dC (.str "cc")) (dCons (dC (.str "")) dNil)))))) (dCons (dC (.int 5)) dNil)))) (dgName 1)) (dSeq (dAsg (dIf (dB (dOp (rInt (fun _ _ => True) fun i j => .bl (decide (j < i))) (dCall1 sp__law_take (dCons (dSlot 0) (dCons (dC (.int 4)) dNil))) (dC (.int 0)))) (dCall1 sp__law_edited (dCons (dSlot 0) (dCons (dSlot 1) dNil))) (dSlot 1)) (dgName 2)) (dSeq (dAsg (dIf (dB (dOp (rInt (fun _ _ => True) fun i j => .bl (decide (j < i))) (dCall1 sp__law_take (dCons (dSlot 0) (dCons (dC (.int 4)) dNil))) (dC (.int 0)))) (dCall1 sp__law_edited (dCons (dSlot 0) (dCons (dSlot 1) dNil))) (dSlot 2)) (dgName 3)) (dSeq (dIfS (dB (dOp (rInt (fun _ _ => True) fun i j => .bl (decide (j < i))) (dCB rMaxLD (dCons (dLc true (dIt (dTup (dCons (dSlot 1) (dCons (dSlot 2) (dCons (dSlot 3) dNil))))) (dgName 13) dYes (dCB rLen (dCons (dSlot 13) dNil)) [13]) dNil)) (dC (.int 6)))) (dRet (dC (.bl true))) dNext) (dSeq (dIfS (dB (dOp (rEqD2 true) (dCB rReprD (dCons (dCallE sp_common (dCons (dSlot 2) (dCons (dSlot 3) dNil)) fun _ _ _ => False) dNil)) (dCB rReprD (dCons (dCall1 sp__law_common (dCons (dSlot 2) (dCons (dSlot 3) dNil))) dNil)))) (dRet (dC (.bl false))) dNext) (dSeq (dAsg (dCallE sp_changes (dCons (dSlot 2) (dCons (dSlot 3) dNil)) fun _ _ _ => False) (dgName 4)) (dSeq (dIfS (dOrT (dB (dOp (rEqD2 true) (dCB rReprD (dCons (dSlot 4) dNil)) (dCB rReprD (dCons (dCall1 sp__law_blocks (dCons (dSlot 2) (dCons (dSlot 3) dNil))) dNil)))) (dB (dOp (rEqD2 true) (dCB rReprD (dCons (dCallE sp_changed (dCons (dSlot 2) (dCons (dSlot 4) dNil)) fun _ _ _ => False) dNil)) (dCB rReprD (dCons (dSlot 3) dNil))))) (dRet (dC (.bl false))) dNext) (dSeq (dFor (dIt (dOp (rAddD true) (dLst true (dCons (dSlot 4) (dCons (dCB (rListD true) (dCons (dSlot 4) dNil)) (dCons (dCall1 sp__law_odd (dCons (dSlot 0) dNil)) (dCons (dTup (dCons (dTup (dCons (dC (.str "keep")) (dCons (dCB rLen (dCons (dSlot 2) dNil)) dNil))) dNil)) dNil))))) (dLc true (dRange1 (dC (.int 8))) (dgName 12) dYes (dCall1 sp__law_bent (dCons (dSlot 0) (dCons (dSlot 4) dNil))) [12]))) (dgName 5) (dSeq (dAsg (dCall1 sp__law_is_changed (dCons (dSlot 2) (dCons (dSlot 5) dNil))) (dgTup 2 (dgCons (dgName 8) (dgCons (dgName 9) dgNil)))) (dSeq (dAsg (dHeard kn fun E1 => (dCallE sp_changed (dCons (dSlot 2) (dCons (dSlot 5) dNil)) E1)) (dgTup 2 (dgCons (dgName 10) (dgCons (dgName 11) dgNil)))) (dSeq (dIfS (dAndT (dB (dSlot 8)) (dB (dOp (rEqD2 true) (dCB rReprD (dCons (dSlot 11) dNil)) (dCB rReprD (dCons (dSlot 9) dNil))))) (dRet (dC (.bl false))) dNext) (dIfS (dAndT (dNotT (dB (dSlot 8))) (dNotT (dAndT (dB (dIsE kn (isC "BadRow") (dSlot 10))) (dB (dOp (rEqD2 false) (dCB rReprD (dCons (dExcV kn (dSlot 10)) dNil)) (dCB rReprD (dCons (dSlot 5) dNil))))))) (dRet (dC (.bl false))) dNext))))) (dSeq (dAsg (dCallE sp_merged (dCons (dSlot 1) (dCons (dSlot 2) (dCons (dSlot 3) dNil))) fun _ _ _ => False) (dgName 4)) (dSeq (dIfS (dB (dOp (rEqD2 true) (dCB rReprD (dCons (dSlot 4) dNil)) (dCB rReprD (dCons (dCall1 sp__law_merged (dCons (dSlot 1) (dCons (dSlot 2) (dCons (dSlot 3) dNil)))) dNil)))) (dRet (dC (.bl false))) dNext) (dSeq (dAsg (dCallE sp_merged (dCons (dSlot 1) (dCons (dSlot 3) (dCons (dSlot 2) dNil))) fun _ _ _ => False) (dgName 6)) (dSeq (dIfS (dAndT (dB (dOp (rEqD2 false) (dOp rIxD (dSlot 4) (dC (.int 0))) (dC (.str "merged")))) (dB (dOp (rEqD2 true) (dSlot 6) (dSlot 4)))) (dRet (dC (.bl false))) dNext) (dSeq (dIfS (dAndT (dB (dOp (rEqD2 false) (dOp rIxD (dSlot 4) (dC (.int 0))) (dC (.str "clash")))) (dB (dOp (rEqD2 true) (dOp rIxD (dSlot 6) (dC (.int 1))) (dCB rTupD (dCons (dLc true (dIt (dOp rIxD (dSlot 4) (dC (.int 1)))) (dgTup 4 (dgCons (dgName 14) (dgCons (dgName 15) (dgCons (dgName 16) (dgCons (dgName 17) dgNil))))) dYes (dTup (dCons (dSlot 14) (dCons (dSlot 15) (dCons (dSlot 17) (dCons (dSlot 16) dNil))))) [14, 15, 16, 17]) dNil))))) (dRet (dC (.bl false))) dNext) (dSeq (dAsg (dLst true (dCons (dCallE sp_merged (dCons (dSlot 1) (dCons (dSlot 1) (dCons (dSlot 3) dNil))) fun _ _ _ => False) (dCons (dCallE sp_merged (dCons (dSlot 1) (dCons (dSlot 3) (dCons (dSlot 1) dNil))) fun _ _ _ => False) (dCons (dCallE sp_merged (dCons (dSlot 1) (dCons (dSlot 3) (dCons (dSlot 3) dNil))) fun _ _ _ => False) dNil)))) (dgName 7)) (dRet (dOp (rEqD2 false) (dSlot 7) (dOp (rMulD true) (dLst true (dCons (dTup (dCons (dC (.str "merged")) (dCons (dSlot 3) dNil))) dNil)) (dC (.int 3)))))))))))))))))))
abbrev st_law : Stmt := topS 48
abbrev N_law : List Str := ["script", "place", "odd", "long", "told", "pot", "calls", "call", "caught", "at", "lap"]
theorem sc_law : FnScope N_law ["script"] (defScope st_law) := ⟨rfl, rfl, rfl, by decide +kernel, rfl, by decide +kernel, by decide +kernel⟩
def r_law (sp__law_places : DS1) (sp__law_pot : DS1) (sp__law_right : DS1) (sp_common : DSp) (sp_changes : DSp) (sp_changed : DSp) (sp_merged : DSp) (lq : Str) (P0 : Addr → Addr → Heap → Prop) (P1 : Addr → Addr → Heap → Prop) (P2 : Addr → Addr → Heap → Prop) (P3 : Addr → Addr → Heap → Prop) (P4 : Addr → Addr → Heap → Prop) (P5 : Addr → Addr → Heap → Prop) : DTS := (dSeq (dFor (dIt (dCall1 sp__law_places (dCons (dSlot 0) (dCons (dC (.int 4)) dNil)))) (dgName 1) (dSeq (dAsg (dCall1 sp__law_pot (dCons (dSlot 0) (dCons (dSlot 1) dNil))) (dgName 5)) (dIfS (dNotT (dB (dCB rAllD (dCons (dLc true (dRange1 (dC (.int 3))) (dgName 10) dYes (dCall1 sp__law_right (dCons (dSlot 5) dNil)) [10]) dNil)))) (dRet (dC (.bl false))) dNext))) (dSeq (dFor (dIt (dTup (dCons (dC .non) (dCons (dLst true (dCons (dC (.str "a")) dNil)) (dCons (dOp rRepTD (dTup (dCons (dC (.str "a")) dNil)) (dC (.int 41))) (dCons (dTup (dCons (dOp (rMulD true) (dC (.str "a")) (dC (.int 101))) dNil)) (dCons (dTup (dCons (dC (.str "A")) dNil)) (dCons (dTup (dCons (dC (.int 1)) dNil)) (dCons (dC (.str "a")) dNil))))))))) (dgName 2) (dSeq (dAsg (dLst false (dCons (dC (.lam lq P0)) dNil)) (dgName 6)) (dSeq (dDrop (dAppend (dSlot 6) (dC (.lam lq P1)))) (dSeq (dDrop (dAppend (dSlot 6) (dC (.lam lq P2)))) (dSeq (dDrop (dAppend (dSlot 6) (dC (.lam lq P3)))) (dSeq (dDrop (dAppend (dSlot 6) (dC (.lam lq P4)))) (dSeq (dDrop (dAppend (dSlot 6) (dC (.lam lq P5)))) (dFor (dIt (dSlot 6)) (dgName 7) (dSeq (dAsg (dOp rIxD (dHeardVs kn 7 [(lq, P0, fun E1 => (dCallE sp_common (dCons (dSlot 2) (dCons (dC .non) dNil)) E1)), (lq, P1, fun E1 => (dCallE sp_common (dCons (dTup dNil) (dCons (dSlot 2) dNil)) E1)), (lq, P2, fun E1 => (dCallE sp_changes (dCons (dSlot 2) (dCons (dC .non) dNil)) E1)), (lq, P3, fun E1 => (dCallE sp_changed (dCons (dSlot 2) (dCons (dC .non) dNil)) E1)), (lq, P4, fun E1 => (dCallE sp_merged (dCons (dTup dNil) (dCons (dSlot 2) (dCons (dC .non) dNil))) E1)), (lq, P5, fun E1 => (dCallE sp_merged (dCons (dTup dNil) (dCons (dTup dNil) (dCons (dSlot 2) dNil))) E1))]) (dC (.int 0))) (dgName 8)) (dIfS (dOrT (dNotT (dB (dIsE kn (isC "BadRow") (dSlot 8)))) (dB (dOp (rEqD2 true) (dCB rReprD (dCons (dExcV kn (dSlot 8)) dNil)) (dCB rReprD (dCons (dSlot 2) dNil))))) (dRet (dC (.bl false))) dNext)))))))))) (dSeq (dAsg (dCB rTupD (dCons (dLc true (dRange1 (dC (.int 40))) (dgName 9) dYes (dOp (rMulD true) (dC (.str "a")) (dSlot 9)) [9]) dNil)) (dgName 3)) (dSeq (dAsg (dCallE sp_merged (dCons (dSlot 3) (dCons (dOp (rAddD true) (dOp (rAddD true) (dSl true (dSlot 3) dNoPart (dPart (dC (.int 7)))) (dTup (dCons (dC (.str "x")) dNil))) (dSl true (dSlot 3) (dPart (dC (.int 8))) dNoPart)) (dCons (dOp (rAddD true) (dSl true (dSlot 3) dNoPart (dPart (dC (.int 39)))) (dTup (dCons (dC (.str "y")) dNil))) dNil))) fun _ _ _ => False) (dgName 4)) (dRet (dAndV (dOp (rEqD2 false) (dSlot 4) (dTup (dCons (dC (.str "merged")) (dCons (dOp (rAddD true) (dOp (rAddD true) (dOp (rAddD true) (dSl true (dSlot 3) dNoPart (dPart (dC (.int 7)))) (dTup (dCons (dC (.str "x")) dNil))) (dSl true (dSlot 3) (dPart (dC (.int 8))) (dPart (dC (.int 39))))) (dTup (dCons (dC (.str "y")) dNil))) dNil)))) (dOp (rEqD2 false) (dCB rLen (dCons (dCallE sp_common (dCons (dSlot 3) (dCons (dRevS true (dSlot 3)) dNil)) fun _ _ _ => False) dNil)) (dC (.int 1)))))))))
/-- what the text's top leaves, as the walk asks it -/
structure Txt (K : PySem.W.Frag) (mg : Str → Option Value) : Prop where
  m_abs : mg "abs" = none
  m_all : mg "all" = none
  m_bool : mg "bool" = none
  m_dict : mg "dict" = none
  m_int : mg "int" = none
  m_isinstance : mg "isinstance" = none
  m_len : mg "len" = none
  m_list : mg "list" = none
  m_max : mg "max" = none
  m_min : mg "min" = none
  m_range : mg "range" = none
  m_repr : mg "repr" = none
  m_sorted : mg "sorted" = none
  m_str : mg "str" = none
  m_sum : mg "sum" = none
  m_tuple : mg "tuple" = none
  m_zip : mg "zip" = none
  g_CLASH : Glob K mg "CLASH" v_CLASH
  g_KEEP : Glob K mg "KEEP" v_KEEP
  g_MERGED : Glob K mg "MERGED" v_MERGED
  g_MOST_PIECE : Glob K mg "MOST_PIECE" v_MOST_PIECE
  g_MOST_ROW : Glob K mg "MOST_ROW" v_MOST_ROW
  g_SIGNS : Glob K mg "SIGNS" v_SIGNS
  g_TURN : Glob K mg "TURN" v_TURN
  h_is_tuple : Has K mg "is_tuple" "is_tuple" st_is_tuple ["value", "least", "most"] []
  h_is_text : Has K mg "is_text" "is_text" st_is_text ["value", "most"] []
  h_check_row : Has K mg "check_row" "check_row" st_check_row ["value"] []
  h_longest_from : Has K mg "longest_from" "longest_from" st_longest_from ["one", "other"] []
  h_pairs_of : Has K mg "pairs_of" "pairs_of" st_pairs_of ["one", "other"] []
  h_fits : Has K mg "fits" "fits" st_fits ["one", "other", "most", "place", "at", "left"] []
  h_common : Has K mg "common" "common" st_common ["one", "other"] []
  h_blocks_of : Has K mg "blocks_of" "blocks_of" st_blocks_of ["one", "other"] []
  h_changes : Has K mg "changes" "changes" st_changes ["one", "other"] []
  h_changed : Has K mg "changed" "changed" st_changed ["row", "value"] []
  h_is_block : Has K mg "is_block" "is_block" st_is_block ["value"] []
  h_is_changes : Has K mg "is_changes" "is_changes" st_is_changes ["value"] []
  h_stable_places : Has K mg "stable_places" "stable_places" st_stable_places ["base", "one", "other"] []
  h_taken_of : Has K mg "taken_of" "taken_of" st_taken_of ["parts"] []
  h_merged_rows : Has K mg "merged_rows" "merged_rows" st_merged_rows ["base", "one", "other"] []
  h_merged : Has K mg "merged" "merged" st_merged ["base", "one", "other"] []
  h__law_pot : Has K mg "_law_pot" "_law_pot" st__law_pot ["script", "place"] []
  h__law_take : Has K mg "_law_take" "_law_take" st__law_take ["pot", "upto"] []
  h__law_of : Has K mg "_law_of" "_law_of" st__law_of ["pot", "some"] []
  h__law_places : Has K mg "_law_places" "_law_places" st__law_places ["script", "most"] []
  h__law_heard : Has K mg "_law_heard" "_law_heard" st__law_heard ["call"] []
  h__law_odd : Has K mg "_law_odd" "_law_odd" st__law_odd ["pot"] []
  h__law_is_int : Has K mg "_law_is_int" "_law_is_int" st__law_is_int ["value", "low", "high"] []
  h__law_bent : Has K mg "_law_bent" "_law_bent" st__law_bent ["pot", "value"] []
  h__law_signs : Has K mg "_law_signs" "_law_signs" st__law_signs [] []
  h__law_is_text : Has K mg "_law_is_text" "_law_is_text" st__law_is_text ["value"] []
  h__law_rows : Has K mg "_law_rows" "_law_rows" st__law_rows ["pot", "signs", "most"] []
  h__law_edited : Has K mg "_law_edited" "_law_edited" st__law_edited ["pot", "row"] []
  h__law_common : Has K mg "_law_common" "_law_common" st__law_common ["one", "other"] []
  h__law_merged : Has K mg "_law_merged" "_law_merged" st__law_merged ["base", "one", "other"] []
  h__law_blocks : Has K mg "_law_blocks" "_law_blocks" st__law_blocks ["one", "other"] []
  h__law_is_changed : Has K mg "_law_is_changed" "_law_is_changed" st__law_is_changed ["row", "value"] []
  h__law_is_row : Has K mg "_law_is_row" "_law_is_row" st__law_is_row ["value"] []
  h__law_right : Has K mg "_law_right" "_law_right" st__law_right ["pot"] []
section
variable {P : Program} {w : World} {K : PySem.W.Frag} {mg : Str → Option Value} {base : Heap}
theorem c_is_tuple {k : Nat} {TT : TT8} (T : Txt K mg) {sp : DS1} (read : ∀ ds M Q, sp ds M Q → ds.length = 3 ∧ r_is_tuple { nx := fun _ M' => Q .non M', rt := Q } (dstart N_is_tuple ds) M) : Cal1 P w K TT mg base (k + 1) "is_tuple" sp :=
  dcal1 T.h_is_tuple sc_is_tuple (t := r_is_tuple) (fun f cdv A outer s H E Y E1 hT hr gu g =>
    (dss_one (ds_ret (de_and (de_isi T.m_isinstance T.m_tuple (de_v 0)) (de_one (de_chain od_le od_le (de_v 1) (de_b cd_len T.m_len (da_cons (de_v 0) da_nil)) (de_v 2))))))) read
theorem c_is_text {k : Nat} {TT : TT8} (T : Txt K mg) {sp : DS1} (read : ∀ ds M Q, sp ds M Q → ds.length = 2 ∧ r_is_text { nx := fun _ M' => Q .non M', rt := Q } (dstart N_is_text ds) M) : Cal1 P w K TT mg base (k + 1) "is_text" sp :=
  dcal1 T.h_is_text sc_is_text (t := r_is_text) (fun f cdv A outer s H E Y E1 hT hr gu g =>
    (dss_one (ds_ret (de_and (de_isi T.m_isinstance T.m_str (de_v 0)) (de_and (de_cmp od_le (de_b cd_len T.m_len (da_cons (de_v 0) da_nil)) (de_v 1) (nomark _)) (de_one (de_b (cd_all rfl) T.m_all (da_cons (de_lc true (own := [("sign", 2)]) (g := (dgName 2)) (tt := dYes) (te := (dOp (rInD false) (dSlot 2) (dC v_SIGNS))) rfl sc_is_text.nd (di_it (de_v 0)) (blkOk_by (own := [("sign", 2)]) (N := N_is_text) (sc := defScope st_is_text) (by decide +kernel)) (by decide) (fun _ _ _ _ _ => (dg_name (i := 2) sc_is_text.nd rfl (by first | exact Or.inl rfl | exact Or.inr rfl))) (fun _ _ _ _ _ => dts_nil) (fun _ _ _ _ _ => (de_cmp od_in (de_v 2) (de_g T.g_SIGNS) (by with_unfolding_all rfl)))) da_nil)))))))) read
theorem c_check_row {k : Nat} {TT : TT8} (T : Txt K mg) (XE : Exs P w K mg base) (hk : 2 ≤ k) {sp_is_tuple : DS1} (c_is_tuple : Cal1 P w K TT mg base k "is_tuple" sp_is_tuple) {sp_is_text : DS1} (c_is_text : Cal1 P w K TT mg base k "is_text" sp_is_text) {sp : DSp} (read : ∀ ds M Q E, sp ds M Q E → ds.length = 1 ∧ r_check_row E sp_is_tuple sp_is_text { nx := fun _ M' => Q .non M', rt := Q } (dstart N_check_row ds) M) : Cal P w K TT mg base (k + 1) "check_row" [] sp :=
  dcal T.h_check_row sc_check_row (t := fun E1 => r_check_row E1 sp_is_tuple sp_is_text) (fun f cdv A outer s H E Y E1 hT hr gu g =>
    (dss_one (ds_if (dt_w (dw_or (dt_not (dt_val (de_call1 (c_is_tuple.on hT) hr gu g.xt (da_cons (de_v 0) (da_cons de_int (da_cons (de_g T.g_MOST_ROW) da_nil)))))) (dw_or1 (dt_not (dt_val (de_b (cd_all rfl) T.m_all (da_cons (de_lc true (own := [("text", 1)]) (g := (dgName 1)) (tt := dYes) (te := (dCall1 sp_is_text (dCons (dSlot 1) (dCons (dC v_MOST_PIECE) dNil)))) rfl sc_check_row.nd (di_it (de_v 0)) (blkOk_by (own := [("text", 1)]) (N := N_check_row) (sc := defScope st_check_row) (by decide +kernel)) (by decide) (fun _ _ _ _ _ => (dg_name (i := 1) sc_check_row.nd rfl (by first | exact Or.inl rfl | exact Or.inr rfl))) (fun _ _ _ _ _ => dts_nil) (fun _ _ _ _ _ => (de_call1 (c_is_text.on hT) hr gu g.xt (da_cons (de_v 1) (da_cons (de_g T.g_MOST_PIECE) da_nil))))) da_nil))))))) (dss_one (ds_raise XE.x_BadRow (hr.mono hk) g rfl (de_v 0))) dss_nil))) read
theorem c_longest_from {k : Nat} {TT : TT8} (T : Txt K mg) {sp : DS1} (read : ∀ ds M Q, sp ds M Q → ds.length = 2 ∧ r_longest_from { nx := fun _ M' => Q .non M', rt := Q } (dstart N_longest_from ds) M) : Cal1 P w K TT mg base (k + 1) "longest_from" sp :=
  dcal1 T.h_longest_from sc_longest_from (t := r_longest_from) (fun f cdv A outer s H E Y E1 hT hr gu g =>
    (dss_cons (ds_setLc (i := 2) true (own := [("place", 5)]) (g := (dgName 5)) (tt := dYes) (te := (dOp (rMulD false) (dLst true (dCons (dC (.int 0)) dNil)) (dOp (rAddD true) (dCB rLen (dCons (dSlot 1) dNil)) (dC (.int 1))))) rfl sc_longest_from.nd rfl rfl (sw_true rfl rfl rfl (by decide +kernel)) (di_range1 T.m_range (de_op (od_add true) (de_b cd_len T.m_len (da_cons (de_v 0) da_nil)) de_int)) (blkOk_by (own := [("place", 5)]) (N := N_longest_from) (sc := defScope st_longest_from) (by decide +kernel)) (by decide) (fun _ _ _ _ _ => (dg_name (i := 5) sc_longest_from.nd rfl (by first | exact Or.inl rfl | exact Or.inr rfl))) (fun _ _ _ _ _ => dts_nil) (fun _ _ _ _ _ => (de_op (od_mul false) (de_lst true (da_cons de_int da_nil)) (de_op (od_add true) (de_b cd_len T.m_len (da_cons (de_v 1) da_nil)) de_int))))
    (dss_cons (ds_for (passes_of rfl) rfl (di_rangeDn T.m_range (de_op od_sub (de_b cd_len T.m_len (da_cons (de_v 0) da_nil)) de_int) (de_neg de_int) (de_neg de_int)) (dg_name (i := 3) sc_longest_from.nd rfl (by first | exact Or.inl rfl | exact Or.inr rfl)) (dss_one (ds_for (passes_of rfl) rfl (di_rangeDn T.m_range (de_op od_sub (de_b cd_len T.m_len (da_cons (de_v 1) da_nil)) de_int) (de_neg de_int) (de_neg de_int)) (dg_name (i := 4) sc_longest_from.nd rfl (by first | exact Or.inl rfl | exact Or.inr rfl)) (dss_cons (ds_asg (de_b (cd_max2 rfl) T.m_max (da_cons (de_ix (de_ix (de_v 2) (de_op (od_add true) (de_v 3) de_int)) (de_v 4)) (da_cons (de_ix (de_ix (de_v 2) (de_v 3)) (de_op (od_add true) (de_v 4) de_int)) da_nil))) (dg_sub (de_ix (de_v 2) (de_v 3)) (de_v 4) set_lstD))
    (dss_one (ds_if (dt_cmp (od_eq hr) (de_ix (de_v 0) (de_v 3)) (de_ix (de_v 1) (de_v 4)) (nomark _)) (dss_one (ds_asg (de_b (cd_max2 rfl) T.m_max (da_cons (de_ix (de_ix (de_v 2) (de_v 3)) (de_v 4)) (da_cons (de_op (od_add true) de_int (de_ix (de_ix (de_v 2) (de_op (od_add true) (de_v 3) de_int)) (de_op (od_add true) (de_v 4) de_int))) da_nil))) (dg_sub (de_ix (de_v 2) (de_v 3)) (de_v 4) set_lstD))) dss_nil))))))
    (dss_one (ds_ret (de_v 2)))))) read
theorem c_pairs_of {k : Nat} {TT : TT8} (T : Txt K mg) {sp_longest_from : DS1} (c_longest_from : Cal1 P w K TT mg base k "longest_from" sp_longest_from) {sp_fits : DS1} (c_fits : Cal1 P w K TT mg base k "fits" sp_fits) {sp : DS1} (read : ∀ ds M Q, sp ds M Q → ds.length = 2 ∧ r_pairs_of sp_longest_from sp_fits { nx := fun _ M' => Q .non M', rt := Q } (dstart N_pairs_of ds) M) : Cal1 P w K TT mg base (k + 1) "pairs_of" sp :=
  dcal1 T.h_pairs_of sc_pairs_of (t := r_pairs_of sp_longest_from sp_fits) (fun f cdv A outer s H E Y E1 hT hr gu g =>
    (dss_cons (ds_asg (de_tup (da_cons (de_call1 (c_longest_from.on hT) hr gu g.xt (da_cons (de_v 0) (da_cons (de_v 1) da_nil))) (da_cons (de_lst false da_nil) (da_cons de_int (da_cons de_int da_nil))))) (dg_tup rfl (dgs_cons (dg_name (i := 2) sc_pairs_of.nd rfl (by first | exact Or.inl rfl | exact Or.inr rfl)) (dgs_cons (dg_name (i := 3) sc_pairs_of.nd rfl (by first | exact Or.inl rfl | exact Or.inr rfl)) (dgs_cons (dg_name (i := 4) sc_pairs_of.nd rfl (by first | exact Or.inl rfl | exact Or.inr rfl)) (dgs_cons (dg_name (i := 5) sc_pairs_of.nd rfl (by first | exact Or.inl rfl | exact Or.inr rfl)) dgs_nil))))))
    (dss_cons (ds_while (passes_of rfl) (dt_cmp od_gt (de_ix (de_ix (de_v 2) (de_v 4)) (de_v 5)) de_int (nomark _)) (dss_cons (ds_set (i := 6) sc_pairs_of.nd rfl (by first | exact Or.inl rfl | exact Or.inr rfl) (de_ix (de_ix (de_v 2) (de_v 4)) (de_v 5)))
    (dss_cons (ds_set (i := 7) sc_pairs_of.nd rfl (by first | exact Or.inl rfl | exact Or.inr rfl) (de_lst true da_nil))
    (dss_cons (ds_for (passes_of rfl) rfl (di_range2 T.m_range (de_v 4) (de_b cd_len T.m_len (da_cons (de_v 0) da_nil))) (dg_name (i := 8) sc_pairs_of.nd rfl (by first | exact Or.inl rfl | exact Or.inr rfl)) (dss_one (ds_if (dt_cmp (od_eq hr) (de_v 7) (de_lst true da_nil) (nomark _)) (dss_one (ds_setLc (i := 7) true (own := [("at", 9)]) (g := (dgName 9)) (tt := (dB (dCall1 sp_fits (dCons (dSlot 0) (dCons (dSlot 1) (dCons (dSlot 2) (dCons (dSlot 8) (dCons (dSlot 9) (dCons (dSlot 6) dNil))))))))) (te := (dTup (dCons (dSlot 8) (dCons (dSlot 9) dNil)))) rfl sc_pairs_of.nd rfl rfl (sw_true rfl rfl rfl (by decide +kernel)) (di_range2 T.m_range (de_v 5) (de_b cd_len T.m_len (da_cons (de_v 1) da_nil))) (blkOk_by (own := [("at", 9)]) (N := N_pairs_of) (sc := defScope st_pairs_of) (by decide +kernel)) (by decide) (fun _ _ _ _ _ => (dg_name (i := 9) sc_pairs_of.nd rfl (by first | exact Or.inl rfl | exact Or.inr rfl))) (fun _ _ _ _ _ => (dts_one (dt_val (de_call1 (c_fits.on hT) hr gu g.xt (da_cons (de_v 0) (da_cons (de_v 1) (da_cons (de_v 2) (da_cons (de_v 8) (da_cons (de_v 9) (da_cons (de_v 6) da_nil)))))))))) (fun _ _ _ _ _ => (de_tup (da_cons (de_v 8) (da_cons (de_v 9) da_nil)))))) dss_nil)))
    (dss_cons (ds_expr (de_append (de_v 3) (de_ix (de_v 7) de_int)))
    (dss_one (ds_par (i := 4) (j := 5) rfl sc_pairs_of.nd rfl rfl (by decide) rfl rfl (da_cons (de_op (od_add true) (de_ix (de_ix (de_v 7) de_int) de_int) de_int) (da_cons (de_op (od_add true) (de_ix (de_ix (de_v 7) de_int) de_int) de_int) da_nil)))))))))
    (dss_one (ds_ret (de_hold (de_v 3))))))) read
theorem c_fits {k : Nat} {TT : TT8} (T : Txt K mg) {sp : DS1} (read : ∀ ds M Q, sp ds M Q → ds.length = 6 ∧ r_fits { nx := fun _ M' => Q .non M', rt := Q } (dstart N_fits ds) M) : Cal1 P w K TT mg base (k + 1) "fits" sp :=
  dcal1 T.h_fits sc_fits (t := r_fits) (fun f cdv A outer s H E Y E1 hT hr gu g =>
    (dss_one (ds_ret (de_and (de_cmp (od_eq hr) (de_ix (de_v 0) (de_v 3)) (de_ix (de_v 1) (de_v 4)) (nomark _)) (de_one (de_cmp (od_eq hr) (de_ix (de_ix (de_v 2) (de_op (od_add true) (de_v 3) de_int)) (de_op (od_add true) (de_v 4) de_int)) (de_op od_sub (de_v 5) de_int) (nomark _))))))) read
theorem c_common {k : Nat} {TT : TT8} (T : Txt K mg) {sp_check_row : DSp} (c_check_row : Cal P w K TT mg base k "check_row" [] sp_check_row) {sp_pairs_of : DS1} (c_pairs_of : Cal1 P w K TT mg base k "pairs_of" sp_pairs_of) {sp : DSp} (read : ∀ ds M Q E, sp ds M Q E → ds.length = 2 ∧ r_common E sp_check_row sp_pairs_of { nx := fun _ M' => Q .non M', rt := Q } (dstart N_common ds) M) : Cal P w K TT mg base (k + 1) "common" [] sp :=
  dcal T.h_common sc_common (t := fun E1 => r_common E1 sp_check_row sp_pairs_of) (fun f cdv A outer s H E Y E1 hT hr gu g =>
    (dss_cons (ds_expr (de_callE (c_check_row.on hT) hr gu g (da_cons (de_v 0) da_nil)))
    (dss_cons (ds_expr (de_callE (c_check_row.on hT) hr gu g (da_cons (de_v 1) da_nil)))
    (dss_one (ds_ret (de_bT (cd_tup rfl) T.m_tuple (da_cons (de_call1 (c_pairs_of.on hT) hr gu g.xt (da_cons (de_v 0) (da_cons (de_v 1) da_nil))) da_nil))))))) read
theorem c_blocks_of {k : Nat} {TT : TT8} (T : Txt K mg) {sp_pairs_of : DS1} (c_pairs_of : Cal1 P w K TT mg base k "pairs_of" sp_pairs_of) {sp : DS1} (read : ∀ ds M Q, sp ds M Q → ds.length = 2 ∧ r_blocks_of sp_pairs_of { nx := fun _ M' => Q .non M', rt := Q } (dstart N_blocks_of ds) M) : Cal1 P w K TT mg base (k + 1) "blocks_of" sp :=
  dcal1 T.h_blocks_of sc_blocks_of (t := r_blocks_of sp_pairs_of) (fun f cdv A outer s H E Y E1 hT hr gu g =>
    (dss_cons (ds_asg (de_tup (da_cons (de_lst false da_nil) (da_cons de_int (da_cons de_int (da_cons de_int da_nil))))) (dg_tup rfl (dgs_cons (dg_name (i := 2) sc_blocks_of.nd rfl (by first | exact Or.inl rfl | exact Or.inr rfl)) (dgs_cons (dg_name (i := 3) sc_blocks_of.nd rfl (by first | exact Or.inl rfl | exact Or.inr rfl)) (dgs_cons (dg_name (i := 4) sc_blocks_of.nd rfl (by first | exact Or.inl rfl | exact Or.inr rfl)) (dgs_cons (dg_name (i := 5) sc_blocks_of.nd rfl (by first | exact Or.inl rfl | exact Or.inr rfl)) dgs_nil))))))
    (dss_cons (ds_for (passes_of rfl) rfl (di_it (de_lst true (da_star (de_call1 (c_pairs_of.on hT) hr gu g.xt (da_cons (de_v 0) (da_cons (de_v 1) da_nil))) (da_cons (de_tup (da_cons (de_b cd_len T.m_len (da_cons (de_v 0) da_nil)) (da_cons (de_b cd_len T.m_len (da_cons (de_v 1) da_nil)) da_nil))) da_nil)))) (dg_tup rfl (dgs_cons (dg_name (i := 6) sc_blocks_of.nd rfl (by first | exact Or.inl rfl | exact Or.inr rfl)) (dgs_cons (dg_name (i := 7) sc_blocks_of.nd rfl (by first | exact Or.inl rfl | exact Or.inr rfl)) dgs_nil))) (dss_cons (ds_if (dt_w (dw_or (dt_cmp od_gt (de_v 6) (de_v 3) (nomark _)) (dw_or1 (dt_cmp od_gt (de_v 7) (de_v 4) (nomark _))))) (dss_cons (ds_if (dt_cmp od_gt (de_v 5) de_int (nomark _)) (dss_one (ds_expr (de_append (de_v 2) (de_tup (da_cons (de_g T.g_KEEP) (da_cons (de_v 5) da_nil)))))) dss_nil)
    (dss_cons (ds_expr (de_append (de_v 2) (de_tup (da_cons (de_g T.g_TURN) (da_cons (de_slice true (de_v 0) (do_some (de_v 3)) (do_some (de_v 6))) (da_cons (de_slice true (de_v 1) (do_some (de_v 4)) (do_some (de_v 7))) da_nil))))))
    (dss_one (ds_set (i := 5) sc_blocks_of.nd rfl (by first | exact Or.inl rfl | exact Or.inr rfl) de_int)))) dss_nil)
    (dss_one (ds_par3 (i := 5) (j := 3) (l := 4) rfl sc_blocks_of.nd rfl rfl rfl (by decide) (by decide) (by decide) rfl rfl rfl (da_cons (de_op (od_add true) (de_v 5) de_int) (da_cons (de_op (od_add true) (de_v 6) de_int) (da_cons (de_op (od_add true) (de_v 7) de_int) da_nil)))))))
    (dss_one (ds_ret (de_if (dt_cmp od_gt (de_v 5) de_int (nomark _)) (de_lst true (da_star (de_v 2) (da_cons (de_tup (da_cons (de_g T.g_KEEP) (da_cons (de_op od_sub (de_v 5) de_int) da_nil))) da_nil))) (de_v 2))))))) read
theorem c_changes {k : Nat} {TT : TT8} (T : Txt K mg) {sp_check_row : DSp} (c_check_row : Cal P w K TT mg base k "check_row" [] sp_check_row) {sp_blocks_of : DS1} (c_blocks_of : Cal1 P w K TT mg base k "blocks_of" sp_blocks_of) {sp : DSp} (read : ∀ ds M Q E, sp ds M Q E → ds.length = 2 ∧ r_changes E sp_check_row sp_blocks_of { nx := fun _ M' => Q .non M', rt := Q } (dstart N_changes ds) M) : Cal P w K TT mg base (k + 1) "changes" [] sp :=
  dcal T.h_changes sc_changes (t := fun E1 => r_changes E1 sp_check_row sp_blocks_of) (fun f cdv A outer s H E Y E1 hT hr gu g =>
    (dss_cons (ds_expr (de_callE (c_check_row.on hT) hr gu g (da_cons (de_v 0) da_nil)))
    (dss_cons (ds_expr (de_callE (c_check_row.on hT) hr gu g (da_cons (de_v 1) da_nil)))
    (dss_one (ds_ret (de_bT (cd_tup rfl) T.m_tuple (da_cons (de_call1 (c_blocks_of.on hT) hr gu g.xt (da_cons (de_v 0) (da_cons (de_v 1) da_nil))) da_nil))))))) read
theorem c_changed {k : Nat} {TT : TT8} (T : Txt K mg) (XE : Exs P w K mg base) (hk : 2 ≤ k) {sp_check_row : DSp} (c_check_row : Cal P w K TT mg base k "check_row" [] sp_check_row) {sp_is_changes : DS1} (c_is_changes : Cal1 P w K TT mg base k "is_changes" sp_is_changes) {sp : DSp} (read : ∀ ds M Q E, sp ds M Q E → ds.length = 2 ∧ r_changed E sp_check_row sp_is_changes { nx := fun _ M' => Q .non M', rt := Q } (dstart N_changed ds) M) : Cal P w K TT mg base (k + 1) "changed" [] sp :=
  dcal T.h_changed sc_changed (t := fun E1 => r_changed E1 sp_check_row sp_is_changes) (fun f cdv A outer s H E Y E1 hT hr gu g =>
    (dss_cons (ds_expr (de_callE (c_check_row.on hT) hr gu g (da_cons (de_v 0) da_nil)))
    (dss_cons (ds_if (dt_not (dt_val (de_call1 (c_is_changes.on hT) hr gu g.xt (da_cons (de_v 1) da_nil)))) (dss_one (ds_raise XE.x_BadRow (hr.mono hk) g rfl (de_v 1))) dss_nil)
    (dss_cons (ds_par (i := 3) (j := 4) rfl sc_changed.nd rfl rfl (by decide) rfl rfl (da_cons (de_lst false da_nil) (da_cons de_int da_nil)))
    (dss_cons (ds_for (passes_of rfl) rfl (di_it (de_v 1)) (dg_name (i := 2) sc_changed.nd rfl (by first | exact Or.inl rfl | exact Or.inr rfl)) (dss_one (ds_if (dt_cmp (od_eq hr) (de_ix (de_v 2) de_int) (de_g T.g_KEEP) (nomark _)) (dss_cons (ds_if (dt_cmp od_gt (de_op (od_add true) (de_v 4) (de_ix (de_v 2) de_int)) (de_b cd_len T.m_len (da_cons (de_v 0) da_nil)) (nomark _)) (dss_one (ds_raise XE.x_BadRow (hr.mono hk) g rfl (de_v 1))) dss_nil)
    (dss_cons (ds_expr (de_extendT (de_v 3) (de_slice true (de_v 0) (do_some (de_v 4)) (do_some (de_op (od_add true) (de_v 4) (de_ix (de_v 2) de_int))))))
    (dss_one (ds_set (i := 4) sc_changed.nd rfl (by first | exact Or.inl rfl | exact Or.inr rfl) (de_op (od_add true) (de_v 4) (de_ix (de_v 2) de_int)))))) (dss_cons (ds_if (dt_cmp (od_ne hr) (de_slice true (de_v 0) (do_some (de_v 4)) (do_some (de_op (od_add true) (de_v 4) (de_b cd_len T.m_len (da_cons (de_ix (de_v 2) de_int) da_nil))))) (de_ix (de_v 2) de_int) (nomark _)) (dss_one (ds_raise XE.x_BadRow (hr.mono hk) g rfl (de_v 1))) dss_nil)
    (dss_cons (ds_expr (de_extendT (de_v 3) (de_ix (de_v 2) de_int)))
    (dss_one (ds_set (i := 4) sc_changed.nd rfl (by first | exact Or.inl rfl | exact Or.inr rfl) (de_op (od_add true) (de_v 4) (de_b cd_len T.m_len (da_cons (de_ix (de_v 2) de_int) da_nil))))))))))
    (dss_cons (ds_if (dt_cmp (od_ne hr) (de_v 4) (de_b cd_len T.m_len (da_cons (de_v 0) da_nil)) (nomark _)) (dss_one (ds_raise XE.x_BadRow (hr.mono hk) g rfl (de_v 1))) dss_nil)
    (dss_one (ds_ret (de_bT (cd_tup rfl) T.m_tuple (da_cons (de_v 3) da_nil)))))))))) read
theorem c_is_block {k : Nat} {TT : TT8} (T : Txt K mg) {sp_is_tuple : DS1} (c_is_tuple : Cal1 P w K TT mg base k "is_tuple" sp_is_tuple) {sp_is_text : DS1} (c_is_text : Cal1 P w K TT mg base k "is_text" sp_is_text) {sp : DS1} (read : ∀ ds M Q, sp ds M Q → ds.length = 1 ∧ r_is_block sp_is_tuple sp_is_text { nx := fun _ M' => Q .non M', rt := Q } (dstart N_is_block ds) M) : Cal1 P w K TT mg base (k + 1) "is_block" sp :=
  dcal1 T.h_is_block sc_is_block (t := r_is_block sp_is_tuple sp_is_text) (fun f cdv A outer s H E Y E1 hT hr gu g =>
    (dss_cons (ds_if (dt_w (dw_or (dt_not (dt_val (de_call1 (c_is_tuple.on hT) hr gu g.xt (da_cons (de_v 0) (da_cons de_int (da_cons de_int da_nil)))))) (dw_or1 (dt_not (dt_val (de_isi T.m_isinstance T.m_str (de_ix (de_v 0) de_int))))))) (dss_one (ds_ret de_bl)) dss_nil)
    (dss_cons (ds_if (dt_cmp (od_eq hr) (de_ix (de_v 0) de_int) (de_g T.g_KEEP) (nomark _)) (dss_one (ds_ret (de_and (de_cmp (od_eq hr) (de_b cd_len T.m_len (da_cons (de_v 0) da_nil)) de_int (nomark _)) (de_and (de_isi T.m_isinstance T.m_int (de_ix (de_v 0) de_int)) (de_and (de_not (de_isi T.m_isinstance T.m_bool (de_ix (de_v 0) de_int))) (de_one (de_cmp od_gt (de_ix (de_v 0) de_int) de_int (nomark _)))))))) dss_nil)
    (dss_cons (ds_if (dt_w (dw_or (dt_cmp (od_ne hr) (de_ix (de_v 0) de_int) (de_g T.g_TURN) (nomark _)) (dw_or (dt_cmp (od_ne hr) (de_b cd_len T.m_len (da_cons (de_v 0) da_nil)) de_int (nomark _)) (dw_or1 (dt_not (dt_val (de_b (cd_all rfl) T.m_all (da_cons (de_lc true (own := [("part", 2)]) (g := (dgName 2)) (tt := dYes) (te := (dCall1 sp_is_tuple (dCons (dSlot 2) (dCons (dC (.int 0)) (dCons (dC v_MOST_ROW) dNil))))) rfl sc_is_block.nd (di_it (de_slice true (de_v 0) (do_some de_int) do_none)) (blkOk_by (own := [("part", 2)]) (N := N_is_block) (sc := defScope st_is_block) (by decide +kernel)) (by decide) (fun _ _ _ _ _ => (dg_name (i := 2) sc_is_block.nd rfl (by first | exact Or.inl rfl | exact Or.inr rfl))) (fun _ _ _ _ _ => dts_nil) (fun _ _ _ _ _ => (de_call1 (c_is_tuple.on hT) hr gu g.xt (da_cons (de_v 2) (da_cons de_int (da_cons (de_g T.g_MOST_ROW) da_nil)))))) da_nil)))))))) (dss_one (ds_ret de_bl)) dss_nil)
    (dss_one (ds_ret (de_b (cd_all rfl) T.m_all (da_cons (de_lc true (own := [("text", 1)]) (g := (dgName 1)) (tt := dYes) (te := (dCall1 sp_is_text (dCons (dSlot 1) (dCons (dC v_MOST_PIECE) dNil)))) rfl sc_is_block.nd (di_it (de_tup (da_star (de_ix (de_v 0) de_int) (da_star (de_ix (de_v 0) de_int) da_nil)))) (blkOk_by (own := [("text", 1)]) (N := N_is_block) (sc := defScope st_is_block) (by decide +kernel)) (by decide) (fun _ _ _ _ _ => (dg_name (i := 1) sc_is_block.nd rfl (by first | exact Or.inl rfl | exact Or.inr rfl))) (fun _ _ _ _ _ => dts_nil) (fun _ _ _ _ _ => (de_call1 (c_is_text.on hT) hr gu g.xt (da_cons (de_v 1) (da_cons (de_g T.g_MOST_PIECE) da_nil))))) da_nil)))))))) read
theorem c_is_changes {k : Nat} {TT : TT8} (T : Txt K mg) {sp_is_block : DS1} (c_is_block : Cal1 P w K TT mg base k "is_block" sp_is_block) {sp_is_tuple : DS1} (c_is_tuple : Cal1 P w K TT mg base k "is_tuple" sp_is_tuple) {sp : DS1} (read : ∀ ds M Q, sp ds M Q → ds.length = 1 ∧ r_is_changes sp_is_block sp_is_tuple { nx := fun _ M' => Q .non M', rt := Q } (dstart N_is_changes ds) M) : Cal1 P w K TT mg base (k + 1) "is_changes" sp :=
  dcal1 T.h_is_changes sc_is_changes (t := r_is_changes sp_is_block sp_is_tuple) (fun f cdv A outer s H E Y E1 hT hr gu g =>
    (dss_one (ds_ret (de_and (de_call1 (c_is_tuple.on hT) hr gu g.xt (da_cons (de_v 0) (da_cons de_int (da_cons (de_op (od_add true) (de_op (od_mul true) de_int (de_g T.g_MOST_ROW)) de_int) da_nil)))) (de_one (de_b (cd_all rfl) T.m_all (da_cons (de_lc true (own := [("block", 1)]) (g := (dgName 1)) (tt := dYes) (te := (dCall1 sp_is_block (dCons (dSlot 1) dNil))) rfl sc_is_changes.nd (di_it (de_v 0)) (blkOk_by (own := [("block", 1)]) (N := N_is_changes) (sc := defScope st_is_changes) (by decide +kernel)) (by decide) (fun _ _ _ _ _ => (dg_name (i := 1) sc_is_changes.nd rfl (by first | exact Or.inl rfl | exact Or.inr rfl))) (fun _ _ _ _ _ => dts_nil) (fun _ _ _ _ _ => (de_call1 (c_is_block.on hT) hr gu g.xt (da_cons (de_v 1) da_nil)))) da_nil))))))) read
theorem c_stable_places {k : Nat} {TT : TT8} (T : Txt K mg) {sp_pairs_of : DS1} (c_pairs_of : Cal1 P w K TT mg base k "pairs_of" sp_pairs_of) {sp : DS1} (read : ∀ ds M Q, sp ds M Q → ds.length = 3 ∧ r_stable_places sp_pairs_of { nx := fun _ M' => Q .non M', rt := Q } (dstart N_stable_places ds) M) : Cal1 P w K TT mg base (k + 1) "stable_places" sp :=
  dcal1 T.h_stable_places sc_stable_places (t := r_stable_places sp_pairs_of) (fun f cdv A outer s H E Y E1 hT hr gu g =>
    (dss_cons (ds_asg (de_tup (da_cons (de_dc (own := [("place", 6), ("at", 7)]) (g := (dgTup 2 (dgCons (dgName 6) (dgCons (dgName 7) dgNil)))) (tt := dYes) (tk := (dSlot 6)) (te := (dSlot 7)) rfl sc_stable_places.nd (di_it (de_call1 (c_pairs_of.on hT) hr gu g.xt (da_cons (de_v 0) (da_cons (de_v 1) da_nil)))) (blkOk_by (own := [("place", 6), ("at", 7)]) (N := N_stable_places) (sc := defScope st_stable_places) (by decide +kernel)) (by decide) (fun _ _ _ _ _ => (dg_tup rfl (dgs_cons (dg_name (i := 6) sc_stable_places.nd rfl (by first | exact Or.inl rfl | exact Or.inr rfl)) (dgs_cons (dg_name (i := 7) sc_stable_places.nd rfl (by first | exact Or.inl rfl | exact Or.inr rfl)) dgs_nil)))) (fun _ _ _ _ _ => dts_nil) (fun _ _ _ _ _ => (de_v 6)) (fun _ _ _ _ _ => (de_v 7))) (da_cons (de_dc (own := [("place", 6), ("at", 7)]) (g := (dgTup 2 (dgCons (dgName 6) (dgCons (dgName 7) dgNil)))) (tt := dYes) (tk := (dSlot 6)) (te := (dSlot 7)) rfl sc_stable_places.nd (di_it (de_call1 (c_pairs_of.on hT) hr gu g.xt (da_cons (de_v 0) (da_cons (de_v 2) da_nil)))) (blkOk_by (own := [("place", 6), ("at", 7)]) (N := N_stable_places) (sc := defScope st_stable_places) (by decide +kernel)) (by decide) (fun _ _ _ _ _ => (dg_tup rfl (dgs_cons (dg_name (i := 6) sc_stable_places.nd rfl (by first | exact Or.inl rfl | exact Or.inr rfl)) (dgs_cons (dg_name (i := 7) sc_stable_places.nd rfl (by first | exact Or.inl rfl | exact Or.inr rfl)) dgs_nil)))) (fun _ _ _ _ _ => dts_nil) (fun _ _ _ _ _ => (de_v 6)) (fun _ _ _ _ _ => (de_v 7))) da_nil))) (dg_tup rfl (dgs_cons (dg_name (i := 4) sc_stable_places.nd rfl (by first | exact Or.inl rfl | exact Or.inr rfl)) (dgs_cons (dg_name (i := 5) sc_stable_places.nd rfl (by first | exact Or.inl rfl | exact Or.inr rfl)) dgs_nil))))
    (dss_cons (ds_setLc (i := 3) true (own := [("place", 6)]) (g := (dgName 6)) (tt := (dAndT (dB (dOp rInDc (dSlot 6) (dSlot 4))) (dB (dOp rInDc (dSlot 6) (dSlot 5))))) (te := (dTup (dCons (dSlot 6) (dCons (dOp rGetDc (dSlot 4) (dSlot 6)) (dCons (dOp rGetDc (dSlot 5) (dSlot 6)) dNil))))) rfl sc_stable_places.nd rfl rfl (sw_true rfl rfl rfl (by decide +kernel)) (di_range1 T.m_range (de_b cd_len T.m_len (da_cons (de_v 0) da_nil))) (blkOk_by (own := [("place", 6)]) (N := N_stable_places) (sc := defScope st_stable_places) (by decide +kernel)) (by decide) (fun _ _ _ _ _ => (dg_name (i := 6) sc_stable_places.nd rfl (by first | exact Or.inl rfl | exact Or.inr rfl))) (fun _ _ _ _ _ => (dts_one (dt_w (dw_and (dt_cmpC hr (de_v 6) (de_v 4) (by with_unfolding_all rfl)) (dw_and1 (dt_cmpC hr (de_v 6) (de_v 5) (by with_unfolding_all rfl))))))) (fun _ _ _ _ _ => (de_tup (da_cons (de_v 6) (da_cons (de_getDc hr (de_v 4) (de_v 6)) (da_cons (de_getDc hr (de_v 5) (de_v 6)) da_nil))))))
    (dss_one (ds_ret (de_lst true (da_star (de_v 3) (da_cons (de_tup (da_cons (de_b cd_len T.m_len (da_cons (de_v 0) da_nil)) (da_cons (de_b cd_len T.m_len (da_cons (de_v 1) da_nil)) (da_cons (de_b cd_len T.m_len (da_cons (de_v 2) da_nil)) da_nil)))) da_nil)))))))) read
theorem c_taken_of {k : Nat} {TT : TT8} (T : Txt K mg) {sp : DS1} (read : ∀ ds M Q, sp ds M Q → ds.length = 1 ∧ r_taken_of { nx := fun _ M' => Q .non M', rt := Q } (dstart N_taken_of ds) M) : Cal1 P w K TT mg base (k + 1) "taken_of" sp :=
  dcal1 T.h_taken_of sc_taken_of (t := r_taken_of) (fun f cdv A outer s H E Y E1 hT hr gu g =>
    (dss_cons (ds_asg (de_v 0) (dg_tup rfl (dgs_cons (dg_name (i := 1) sc_taken_of.nd rfl (by first | exact Or.inl rfl | exact Or.inr rfl)) (dgs_cons (dg_name (i := 2) sc_taken_of.nd rfl (by first | exact Or.inl rfl | exact Or.inr rfl)) (dgs_cons (dg_name (i := 3) sc_taken_of.nd rfl (by first | exact Or.inl rfl | exact Or.inr rfl)) dgs_nil)))))
    (dss_cons (ds_if (dt_cmp (od_eq hr) (de_v 2) (de_v 1) (nomark _)) (dss_one (ds_ret (de_v 3))) dss_nil)
    (dss_one (ds_ret (de_if (dt_cmp (od_inT hr) (de_v 3) (de_tup (da_cons (de_v 1) (da_cons (de_v 2) da_nil))) (by with_unfolding_all rfl)) (de_v 2) de_non)))))) read
theorem c_merged_rows {k : Nat} {TT : TT8} (T : Txt K mg) {sp_stable_places : DS1} (c_stable_places : Cal1 P w K TT mg base k "stable_places" sp_stable_places) {sp_taken_of : DS1} (c_taken_of : Cal1 P w K TT mg base k "taken_of" sp_taken_of) {sp : DS1} (read : ∀ ds M Q, sp ds M Q → ds.length = 3 ∧ r_merged_rows sp_stable_places sp_taken_of { nx := fun _ M' => Q .non M', rt := Q } (dstart N_merged_rows ds) M) : Cal1 P w K TT mg base (k + 1) "merged_rows" sp :=
  dcal1 T.h_merged_rows sc_merged_rows (t := r_merged_rows sp_stable_places sp_taken_of) (fun f cdv A outer s H E Y E1 hT hr gu g =>
    (dss_cons (ds_par3 (i := 4) (j := 5) (l := 6) rfl sc_merged_rows.nd rfl rfl rfl (by decide) (by decide) (by decide) rfl rfl rfl (da_cons (de_lst false da_nil) (da_cons (de_lst false da_nil) (da_cons (de_tup (da_cons de_int (da_cons de_int (da_cons de_int da_nil)))) da_nil))))
    (dss_cons (ds_for (passes_of rfl) rfl (di_it (de_call1 (c_stable_places.on hT) hr gu g.xt (da_cons (de_v 0) (da_cons (de_v 1) (da_cons (de_v 2) da_nil))))) (dg_name (i := 3) sc_merged_rows.nd rfl (by first | exact Or.inl rfl | exact Or.inr rfl)) (dss_cons (ds_set (i := 7) sc_merged_rows.nd rfl (by first | exact Or.inl rfl | exact Or.inr rfl) (de_tup (da_cons (de_slice true (de_v 0) (do_some (de_ix (de_v 6) de_int)) (do_some (de_ix (de_v 3) de_int))) (da_cons (de_slice true (de_v 1) (do_some (de_ix (de_v 6) de_int)) (do_some (de_ix (de_v 3) de_int))) (da_cons (de_slice true (de_v 2) (do_some (de_ix (de_v 6) de_int)) (do_some (de_ix (de_v 3) de_int))) da_nil)))))
    (dss_cons (ds_set (i := 8) sc_merged_rows.nd rfl (by first | exact Or.inl rfl | exact Or.inr rfl) (de_call1 (c_taken_of.on hT) hr gu g.xt (da_cons (de_v 7) da_nil)))
    (dss_cons (ds_if (dt_cmp od_is (de_v 8) de_non (nomark _)) (dss_one (ds_expr (de_append (de_v 5) (de_tup (da_cons (de_ix (de_v 6) de_int) (da_cons (de_ix (de_v 3) de_int) (da_cons (de_ix (de_v 7) de_int) (da_cons (de_ix (de_v 7) de_int) da_nil)))))))) (dss_one (ds_expr (de_extendT (de_v 4) (de_v 8)))))
    (dss_cons (ds_expr (de_extendT (de_v 4) (de_slice true (de_v 0) (do_some (de_ix (de_v 3) de_int)) (do_some (de_op (od_add true) (de_ix (de_v 3) de_int) de_int)))))
    (dss_one (ds_set (i := 6) sc_merged_rows.nd rfl (by first | exact Or.inl rfl | exact Or.inr rfl) (de_tup (da_cons (de_op (od_add true) (de_ix (de_v 3) de_int) de_int) (da_cons (de_op (od_add true) (de_ix (de_v 3) de_int) de_int) (da_cons (de_op (od_add true) (de_ix (de_v 3) de_int) de_int) da_nil)))))))))))
    (dss_one (ds_ret (de_tup (da_cons (de_bT (cd_tup rfl) T.m_tuple (da_cons (de_v 4) da_nil)) (da_cons (de_bT (cd_tup rfl) T.m_tuple (da_cons (de_v 5) da_nil)) da_nil)))))))) read
theorem c_merged {k : Nat} {TT : TT8} (T : Txt K mg) {sp_check_row : DSp} (c_check_row : Cal P w K TT mg base k "check_row" [] sp_check_row) {sp_merged_rows : DS1} (c_merged_rows : Cal1 P w K TT mg base k "merged_rows" sp_merged_rows) {sp : DSp} (read : ∀ ds M Q E, sp ds M Q E → ds.length = 3 ∧ r_merged E sp_check_row sp_merged_rows { nx := fun _ M' => Q .non M', rt := Q } (dstart N_merged ds) M) : Cal P w K TT mg base (k + 1) "merged" [] sp :=
  dcal T.h_merged sc_merged (t := fun E1 => r_merged E1 sp_check_row sp_merged_rows) (fun f cdv A outer s H E Y E1 hT hr gu g =>
    (dss_cons (ds_expr (de_callE (c_check_row.on hT) hr gu g (da_cons (de_v 0) da_nil)))
    (dss_cons (ds_expr (de_callE (c_check_row.on hT) hr gu g (da_cons (de_v 1) da_nil)))
    (dss_cons (ds_expr (de_callE (c_check_row.on hT) hr gu g (da_cons (de_v 2) da_nil)))
    (dss_cons (ds_asg (de_call1 (c_merged_rows.on hT) hr gu g.xt (da_cons (de_v 0) (da_cons (de_v 1) (da_cons (de_v 2) da_nil)))) (dg_tup rfl (dgs_cons (dg_name (i := 3) sc_merged.nd rfl (by first | exact Or.inl rfl | exact Or.inr rfl)) (dgs_cons (dg_name (i := 4) sc_merged.nd rfl (by first | exact Or.inl rfl | exact Or.inr rfl)) dgs_nil))))
    (dss_one (ds_ret (de_if (dt_cmp (od_eq hr) (de_v 4) (de_tup da_nil) (nomark _)) (de_tup (da_cons (de_g T.g_MERGED) (da_cons (de_v 3) da_nil))) (de_tup (da_cons (de_g T.g_CLASH) (da_cons (de_v 4) da_nil))))))))))) read
theorem c__law_pot {k : Nat} {TT : TT8} (T : Txt K mg) {sp : DS1} (read : ∀ ds M Q, sp ds M Q → ds.length = 2 ∧ r__law_pot { nx := fun _ M' => Q .non M', rt := Q } (dstart N__law_pot ds) M) : Cal1 P w K TT mg base (k + 1) "_law_pot" sp :=
  dcal1 T.h__law_pot sc__law_pot (t := r__law_pot) (fun f cdv A outer s H E Y E1 hT hr gu g =>
    (dss_cons (ds_set (i := 2) sc__law_pot.nd rfl (by first | exact Or.inl rfl | exact Or.inr rfl) (de_if (dt_cmp od_lt (de_v 1) (de_b cd_len T.m_len (da_cons (de_v 0) da_nil)) (nomark _)) (de_ix (de_v 0) (de_v 1)) (de_op (od_add true) (de_op (od_add true) (de_op od_mod (de_b (cd_sum rfl) T.m_sum (da_cons (de_slice true (de_v 0) do_none (do_some de_int)) da_nil)) de_int) (de_op (od_mul true) de_int (de_v 1))) de_int)))
    (dss_cons (ds_set (i := 3) sc__law_pot.nd rfl (by first | exact Or.inl rfl | exact Or.inr rfl) (de_op (od_mul true) (de_op od_mod (de_bT cd_int T.m_int (da_cons (de_b cd_abs T.m_abs (da_cons (de_v 2) da_nil)) da_nil)) (de_op od_pows (de_op od_pows de_int de_int) de_int)) (de_bT cd_int T.m_int (da_cons (de_cmp od_ge (de_b cd_abs T.m_abs (da_cons (de_v 2) da_nil)) (de_op od_pows de_int de_int) (nomark _)) da_nil))))
    (dss_cons (ds_set (i := 4) sc__law_pot.nd rfl (by first | exact Or.inl rfl | exact Or.inr rfl) (de_op od_mod (de_bT cd_int T.m_int (da_cons (de_v 2) da_nil)) de_int))
    (dss_one (ds_ret (de_lst false (da_cons (de_v 3) (da_cons (de_op od_mod (de_bT cd_int T.m_int (da_cons (de_op (od_add true) (de_op (od_add true) (de_op (od_mul true) (de_v 4) de_int) (de_op (od_mul true) (de_op (od_mul true) de_int (de_v 1)) (de_v 1))) de_int) da_nil)) de_int) (da_cons de_int da_nil)))))))))) read
theorem c__law_take {k : Nat} {TT : TT8} (T : Txt K mg) {sp : DS1} (read : ∀ ds M Q, sp ds M Q → ds.length = 2 ∧ r__law_take { nx := fun _ M' => Q .non M', rt := Q } (dstart N__law_take ds) M) : Cal1 P w K TT mg base (k + 1) "_law_take" sp :=
  dcal1 T.h__law_take sc__law_take (t := r__law_take) (fun f cdv A outer s H E Y E1 hT hr gu g =>
    (dss_cons (ds_if (dt_cmp od_gt (de_ix (de_v 0) de_int) de_int (nomark _)) (dss_cons (ds_set (i := 4) sc__law_take.nd rfl (by first | exact Or.inl rfl | exact Or.inr rfl) (de_op od_mod (de_bT cd_int T.m_int (da_cons (de_ix (de_v 0) de_int) da_nil)) (de_v 1)))
    (dss_cons (ds_asg (de_op od_fdiv (de_ix (de_v 0) de_int) (de_v 1)) (dg_sub (de_v 0) de_int set_lstD))
    (dss_one (ds_ret (de_v 4))))) dss_nil)
    (dss_cons (ds_asg (de_op (od_add true) (de_ix (de_v 0) de_int) de_int) (dg_sub (de_v 0) de_int set_lstD))
    (dss_cons (ds_set (i := 2) sc__law_take.nd rfl (by first | exact Or.inl rfl | exact Or.inr rfl) (de_ix (de_lst true (da_cons de_int (da_cons de_int (da_cons de_int (da_cons de_int (da_cons de_int da_nil)))))) (de_op od_mod (de_bT cd_int T.m_int (da_cons (de_ix (de_v 0) de_int) da_nil)) de_int)))
    (dss_cons (ds_set (i := 3) sc__law_take.nd rfl (by first | exact Or.inl rfl | exact Or.inr rfl) (de_op od_mod (de_bT cd_int T.m_int (da_cons (de_op od_pows (de_bT cd_int T.m_int (da_cons (de_op (od_add true) (de_op (od_add true) (de_ix (de_v 0) de_int) (de_op (od_mul true) (de_op (od_mul true) de_int (de_ix (de_v 0) de_int)) (de_ix (de_v 0) de_int))) de_int) da_nil)) de_int) da_nil)) (de_v 2)))
    (dss_cons (ds_set (i := 3) sc__law_take.nd rfl (by first | exact Or.inl rfl | exact Or.inr rfl) (de_op od_mod (de_bT cd_int T.m_int (da_cons (de_op (od_mul true) (de_v 3) (de_op (od_add true) (de_op od_mod (de_bT cd_int T.m_int (da_cons (de_v 3) da_nil)) de_int) (de_op (od_mul true) de_int (de_ix (de_v 0) de_int)))) da_nil)) de_int))
    (dss_one (ds_ret (de_op od_mod (de_bT cd_int T.m_int (da_cons (de_op od_fdiv (de_v 3) de_int) da_nil)) (de_v 1)))))))))) read
theorem c__law_of {k : Nat} {TT : TT8} (T : Txt K mg) {sp__law_take : DS1} (c__law_take : Cal1 P w K TT mg base k "_law_take" sp__law_take) {sp : DS1} (read : ∀ ds M Q, sp ds M Q → ds.length = 2 ∧ r__law_of sp__law_take { nx := fun _ M' => Q .non M', rt := Q } (dstart N__law_of ds) M) : Cal1 P w K TT mg base (k + 1) "_law_of" sp :=
  dcal1 T.h__law_of sc__law_of (t := r__law_of sp__law_take) (fun f cdv A outer s H E Y E1 hT hr gu g =>
    (dss_one (ds_ret (de_ix (de_v 1) (de_call1 (c__law_take.on hT) hr gu g.xt (da_cons (de_v 0) (da_cons (de_b cd_len T.m_len (da_cons (de_v 1) da_nil)) da_nil))))))) read
theorem c__law_places {k : Nat} {TT : TT8} (T : Txt K mg) {sp : DS1} (read : ∀ ds M Q, sp ds M Q → ds.length = 2 ∧ r__law_places { nx := fun _ M' => Q .non M', rt := Q } (dstart N__law_places ds) M) : Cal1 P w K TT mg base (k + 1) "_law_places" sp :=
  dcal1 T.h__law_places sc__law_places (t := r__law_places) (fun f cdv A outer s H E Y E1 hT hr gu g =>
    (dss_one (ds_ret (de_listRg true T.m_list T.m_range (de_b (cd_max2 rfl) T.m_max (da_cons de_int (da_cons (de_b (cd_min2 rfl) T.m_min (da_cons (de_v 1) (da_cons (de_b cd_len T.m_len (da_cons (de_v 0) da_nil)) da_nil))) da_nil))))))) read
theorem c__law_odd {k : Nat} {TT : TT8} (T : Txt K mg) {sp__law_of : DS1} (c__law_of : Cal1 P w K TT mg base k "_law_of" sp__law_of) {sp : DS1} (read : ∀ ds M Q, sp ds M Q → ds.length = 1 ∧ r__law_odd sp__law_of { nx := fun _ M' => Q .non M', rt := Q } (dstart N__law_odd ds) M) : Cal1 P w K TT mg base (k + 1) "_law_odd" sp :=
  dcal1 T.h__law_odd sc__law_odd (t := r__law_odd sp__law_of) (fun f cdv A outer s H E Y E1 hT hr gu g =>
    (dss_cons (ds_set (i := 1) sc__law_odd.nd rfl (by first | exact Or.inl rfl | exact Or.inr rfl) (de_lst true (da_cons de_non (da_cons de_bl (da_cons de_bl (da_cons de_int (da_cons de_int (da_cons (de_neg de_int) (da_cons de_int (da_cons de_int (da_cons de_str (da_cons de_str (da_cons de_str (da_cons de_str (da_cons de_str (da_cons (de_tup da_nil) (da_cons (de_lst true da_nil) (da_cons (de_tup (da_cons de_int da_nil)) (da_cons (de_tup (da_cons (de_tup da_nil) da_nil)) (da_cons (de_lst true (da_cons de_int da_nil)) (da_cons (de_tup (da_cons de_str da_nil)) da_nil)))))))))))))))))))))
    (dss_cons (ds_set (i := 1) sc__law_odd.nd rfl (by first | exact Or.inl rfl | exact Or.inr rfl) (de_op (od_add true) (de_v 1) (de_lst true (da_cons (de_tup (da_cons de_str (da_cons de_str da_nil))) (da_cons (de_tup (da_cons de_str (da_cons (de_tup (da_cons de_str (da_cons de_str da_nil))) da_nil))) (da_cons (de_tup (da_cons de_non da_nil)) (da_cons (de_lst true (da_cons de_str da_nil)) (da_cons (de_op (od_mul true) de_str de_int) (da_cons de_str (da_cons (de_tup (da_cons de_str da_nil)) da_nil))))))))))
    (dss_one (ds_ret (de_call1 (c__law_of.on hT) hr gu g.xt (da_cons (de_v 0) (da_cons (de_v 1) da_nil)))))))) read
theorem c__law_is_int {k : Nat} {TT : TT8} (T : Txt K mg) {sp : DS1} (read : ∀ ds M Q, sp ds M Q → ds.length = 3 ∧ r__law_is_int { nx := fun _ M' => Q .non M', rt := Q } (dstart N__law_is_int ds) M) : Cal1 P w K TT mg base (k + 1) "_law_is_int" sp :=
  dcal1 T.h__law_is_int sc__law_is_int (t := r__law_is_int) (fun f cdv A outer s H E Y E1 hT hr gu g =>
    (dss_one (ds_ret (de_and (de_isi T.m_isinstance T.m_int (de_v 0)) (de_and (de_not (de_isi T.m_isinstance T.m_bool (de_v 0))) (de_one (de_chain od_le od_le (de_v 1) (de_v 0) (de_v 2)))))))) read
theorem c__law_bent {k : Nat} {TT : TT8} (T : Txt K mg) {sp__law_take : DS1} (c__law_take : Cal1 P w K TT mg base k "_law_take" sp__law_take) {sp__law_bent : DS1} (c__law_bent : Cal1 P w K TT mg base k "_law_bent" sp__law_bent) {sp__law_of : DS1} (c__law_of : Cal1 P w K TT mg base k "_law_of" sp__law_of) {sp__law_odd : DS1} (c__law_odd : Cal1 P w K TT mg base k "_law_odd" sp__law_odd) {sp : DS1} (read : ∀ ds M Q, sp ds M Q → ds.length = 2 ∧ r__law_bent sp__law_take sp__law_bent sp__law_of sp__law_odd { nx := fun _ M' => Q .non M', rt := Q } (dstart N__law_bent ds) M) : Cal1 P w K TT mg base (k + 1) "_law_bent" sp :=
  dcal1 T.h__law_bent sc__law_bent (t := r__law_bent sp__law_take sp__law_bent sp__law_of sp__law_odd) (fun f cdv A outer s H E Y E1 hT hr gu g =>
    (dss_cons (ds_if (dt_w (dw_and (dt_val (de_isi T.m_isinstance T.m_tuple (de_v 1))) (dw_and (dt_cmp (od_ne hr) (de_v 1) (de_tup da_nil) (nomark _)) (dw_and1 (dt_cmp od_gt (de_call1 (c__law_take.on hT) hr gu g.xt (da_cons (de_v 0) (da_cons de_int da_nil))) de_int (nomark _)))))) (dss_cons (ds_set (i := 2) sc__law_bent.nd rfl (by first | exact Or.inl rfl | exact Or.inr rfl) (de_call1 (c__law_take.on hT) hr gu g.xt (da_cons (de_v 0) (da_cons (de_b cd_len T.m_len (da_cons (de_v 1) da_nil)) da_nil))))
    (dss_one (ds_ret (de_op (od_add true) (de_op (od_add true) (de_slice true (de_v 1) do_none (do_some (de_v 2))) (de_tup (da_cons (de_call1 (c__law_bent.on hT) hr gu g.xt (da_cons (de_v 0) (da_cons (de_ix (de_v 1) (de_v 2)) da_nil))) da_nil))) (de_slice true (de_v 1) (do_some (de_op (od_add true) (de_v 2) de_int)) do_none))))) dss_nil)
    (dss_cons (ds_if (dt_val (de_isi T.m_isinstance T.m_tuple (de_v 1))) (dss_one (ds_ret (de_call1 (c__law_of.on hT) hr gu g.xt (da_cons (de_v 0) (da_cons (de_lst true (da_cons (de_bT (cd_list true) T.m_list (da_cons (de_v 1) da_nil)) (da_cons (de_slice true (de_v 1) (do_some de_int) do_none) (da_cons (de_slice true (de_v 1) do_none (do_some (de_neg de_int))) (da_cons (de_op (od_add true) (de_v 1) (de_slice true (de_v 1) (do_some (de_neg de_int)) do_none)) (da_cons (de_revS true (de_v 1)) (da_cons (de_tup da_nil) (da_cons de_non da_nil)))))))) da_nil))))) dss_nil)
    (dss_cons (ds_if (dt_val (de_isi T.m_isinstance T.m_bool (de_v 1))) (dss_one (ds_ret (de_call1 (c__law_of.on hT) hr gu g.xt (da_cons (de_v 0) (da_cons (de_lst true (da_cons (de_not (de_v 1)) (da_cons (de_bT cd_int T.m_int (da_cons (de_v 1) da_nil)) (da_cons de_non da_nil)))) da_nil))))) dss_nil)
    (dss_cons (ds_if (dt_val (de_isi T.m_isinstance T.m_int (de_v 1))) (dss_one (ds_ret (de_call1 (c__law_of.on hT) hr gu g.xt (da_cons (de_v 0) (da_cons (de_lst true (da_cons (de_op (od_add true) (de_v 1) de_int) (da_cons (de_op od_sub (de_v 1) de_int) (da_cons (de_neg (de_v 1)) (da_cons (de_bT cd_str T.m_str (da_cons (de_v 1) da_nil)) (da_cons de_non (da_cons (de_cmp (od_eq hr) (de_v 1) de_int (nomark _)) (da_cons (de_tup (da_cons (de_v 1) da_nil)) da_nil)))))))) da_nil))))) dss_nil)
    (dss_cons (ds_if (dt_val (de_isi T.m_isinstance T.m_str (de_v 1))) (dss_cons (ds_set (i := 3) sc__law_bent.nd rfl (by first | exact Or.inl rfl | exact Or.inr rfl) (de_lst true (da_cons (de_op (od_add true) (de_v 1) de_str) (da_cons (de_slice true (de_v 1) do_none (do_some (de_neg de_int))) (da_cons (de_upper (de_v 1)) (da_cons (de_lst true (da_cons (de_v 1) da_nil)) (da_cons de_str (da_cons de_non (da_cons de_int (da_cons de_str (da_cons (de_op (od_add true) de_str (de_v 1)) (da_cons (de_op (od_add true) (de_v 1) de_str) da_nil))))))))))))
    (dss_one (ds_ret (de_call1 (c__law_of.on hT) hr gu g.xt (da_cons (de_v 0) (da_cons (de_v 3) da_nil)))))) dss_nil)
    (dss_one (ds_ret (de_call1 (c__law_odd.on hT) hr gu g.xt (da_cons (de_v 0) da_nil)))))))))) read
theorem c__law_signs {k : Nat} {TT : TT8} (T : Txt K mg) {sp : DS1} (read : ∀ ds M Q, sp ds M Q → ds.length = 0 ∧ r__law_signs { nx := fun _ M' => Q .non M', rt := Q } (dstart N__law_signs ds) M) : Cal1 P w K TT mg base (k + 1) "_law_signs" sp :=
  dcal1 T.h__law_signs sc__law_signs (t := r__law_signs) (fun f cdv A outer s H E Y E1 hT hr gu g =>
    (dss_one (ds_ret de_str))) read
theorem c__law_is_text {k : Nat} {TT : TT8} (T : Txt K mg) {sp__law_signs : DS1} (c__law_signs : Cal1 P w K TT mg base k "_law_signs" sp__law_signs) {sp : DS1} (read : ∀ ds M Q, sp ds M Q → ds.length = 1 ∧ r__law_is_text sp__law_signs { nx := fun _ M' => Q .non M', rt := Q } (dstart N__law_is_text ds) M) : Cal1 P w K TT mg base (k + 1) "_law_is_text" sp :=
  dcal1 T.h__law_is_text sc__law_is_text (t := r__law_is_text sp__law_signs) (fun f cdv A outer s H E Y E1 hT hr gu g =>
    (dss_one (ds_ret (de_and (de_isi T.m_isinstance T.m_str (de_v 0)) (de_one (de_b (cd_all rfl) T.m_all (da_cons (de_lc true (own := [("sign", 1)]) (g := (dgName 1)) (tt := dYes) (te := (dOp (rInD false) (dSlot 1) (dCall1 sp__law_signs dNil))) rfl sc__law_is_text.nd (di_it (de_v 0)) (blkOk_by (own := [("sign", 1)]) (N := N__law_is_text) (sc := defScope st__law_is_text) (by decide +kernel)) (by decide) (fun _ _ _ _ _ => (dg_name (i := 1) sc__law_is_text.nd rfl (by first | exact Or.inl rfl | exact Or.inr rfl))) (fun _ _ _ _ _ => dts_nil) (fun _ _ _ _ _ => (de_cmp od_in (de_v 1) (de_call10 (c__law_signs.on hT) hr gu g.xt) (by with_unfolding_all rfl)))) da_nil))))))) read
theorem c__law_rows {k : Nat} {TT : TT8} (T : Txt K mg) {sp__law_take : DS1} (c__law_take : Cal1 P w K TT mg base k "_law_take" sp__law_take) {sp__law_of : DS1} (c__law_of : Cal1 P w K TT mg base k "_law_of" sp__law_of) {sp : DS1} (read : ∀ ds M Q, sp ds M Q → ds.length = 3 ∧ r__law_rows sp__law_take sp__law_of { nx := fun _ M' => Q .non M', rt := Q } (dstart N__law_rows ds) M) : Cal1 P w K TT mg base (k + 1) "_law_rows" sp :=
  dcal1 T.h__law_rows sc__law_rows (t := r__law_rows sp__law_take sp__law_of) (fun f cdv A outer s H E Y E1 hT hr gu g =>
    (dss_one (ds_ret (de_bT (cd_tup rfl) T.m_tuple (da_cons (de_lc true (own := [("lap", 3)]) (g := (dgName 3)) (tt := dYes) (te := (dCall1 sp__law_of (dCons (dSlot 0) (dCons (dSlot 1) dNil)))) rfl sc__law_rows.nd (di_range1 T.m_range (de_call1 (c__law_take.on hT) hr gu g.xt (da_cons (de_v 0) (da_cons (de_op (od_add true) (de_v 2) de_int) da_nil)))) (blkOk_by (own := [("lap", 3)]) (N := N__law_rows) (sc := defScope st__law_rows) (by decide +kernel)) (by decide) (fun _ _ _ _ _ => (dg_name (i := 3) sc__law_rows.nd rfl (by first | exact Or.inl rfl | exact Or.inr rfl))) (fun _ _ _ _ _ => dts_nil) (fun _ _ _ _ _ => (de_call1 (c__law_of.on hT) hr gu g.xt (da_cons (de_v 0) (da_cons (de_v 1) da_nil))))) da_nil))))) read
theorem c__law_edited {k : Nat} {TT : TT8} (T : Txt K mg) {sp__law_take : DS1} (c__law_take : Cal1 P w K TT mg base k "_law_take" sp__law_take) {sp__law_of : DS1} (c__law_of : Cal1 P w K TT mg base k "_law_of" sp__law_of) {sp : DS1} (read : ∀ ds M Q, sp ds M Q → ds.length = 2 ∧ r__law_edited sp__law_take sp__law_of { nx := fun _ M' => Q .non M', rt := Q } (dstart N__law_edited ds) M) : Cal1 P w K TT mg base (k + 1) "_law_edited" sp :=
  dcal1 T.h__law_edited sc__law_edited (t := r__law_edited sp__law_take sp__law_of) (fun f cdv A outer s H E Y E1 hT hr gu g =>
    (dss_cons (ds_set (i := 2) sc__law_edited.nd rfl (by first | exact Or.inl rfl | exact Or.inr rfl) (de_bT (cd_list false) T.m_list (da_cons (de_v 1) da_nil)))
    (dss_cons (ds_for (passes_of rfl) rfl (di_range1 T.m_range (de_call1 (c__law_take.on hT) hr gu g.xt (da_cons (de_v 0) (da_cons de_int da_nil)))) (dg_name (i := 3) sc__law_edited.nd rfl (by first | exact Or.inl rfl | exact Or.inr rfl)) (dss_cons (ds_par (i := 4) (j := 5) rfl sc__law_edited.nd rfl rfl (by decide) rfl rfl (da_cons (de_call1 (c__law_take.on hT) hr gu g.xt (da_cons (de_v 0) (da_cons (de_op (od_add true) (de_b cd_len T.m_len (da_cons (de_v 2) da_nil)) de_int) da_nil))) (da_cons (de_call1 (c__law_take.on hT) hr gu g.xt (da_cons (de_v 0) (da_cons de_int da_nil))) da_nil)))
    (dss_one (ds_if (dt_cmp (od_eq hr) (de_v 5) de_int (nomark _)) (dss_one (ds_expr (de_insert (de_v 2) (de_v 4) (de_call1 (c__law_of.on hT) hr gu g.xt (da_cons (de_v 0) (da_cons (de_lst true (da_cons de_str (da_cons de_str (da_cons de_str (da_cons de_str da_nil))))) da_nil)))))) (dss_one (ds_if (dt_w (dw_and (dt_cmp od_lt (de_v 4) (de_b cd_len T.m_len (da_cons (de_v 2) da_nil)) (nomark _)) (dw_and1 (dt_cmp (od_eq hr) (de_v 5) de_int (nomark _))))) (dss_one (ds_expr (de_popAt (de_v 2) (de_v 4)))) (dss_one (ds_if (dt_cmp od_lt (de_v 4) (de_b cd_len T.m_len (da_cons (de_v 2) da_nil)) (nomark _)) (dss_one (ds_asg (de_call1 (c__law_of.on hT) hr gu g.xt (da_cons (de_v 0) (da_cons (de_lst true (da_cons de_str (da_cons de_str (da_cons de_str (da_cons de_str da_nil))))) da_nil))) (dg_sub (de_v 2) (de_v 4) set_lstD))) dss_nil))))))))
    (dss_one (ds_ret (de_bT (cd_tup rfl) T.m_tuple (da_cons (de_v 2) da_nil))))))) read
theorem c__law_common {k : Nat} {TT : TT8} (T : Txt K mg) {sp : DS1} (read : ∀ ds M Q, sp ds M Q → ds.length = 2 ∧ r__law_common { nx := fun _ M' => Q .non M', rt := Q } (dstart N__law_common ds) M) : Cal1 P w K TT mg base (k + 1) "_law_common" sp :=
  dcal1 T.h__law_common sc__law_common (t := r__law_common) (fun f cdv A outer s H E Y E1 hT hr gu g =>
    (dss_cons (ds_set (i := 2) sc__law_common.nd rfl (by first | exact Or.inl rfl | exact Or.inr rfl) (de_lst false (da_cons (de_tupX da_nil) da_nil)))
    (dss_one (ds_while (passes_of rfl) (dt_val de_bl) (dss_cons (ds_set (i := 3) sc__law_common.nd rfl (by first | exact Or.inl rfl | exact Or.inr rfl) (de_lst false da_nil))
    (dss_cons (ds_for (passes_of rfl) rfl (di_it (de_v 2)) (dg_name (i := 4) sc__law_common.nd rfl (by first | exact Or.inl rfl | exact Or.inr rfl)) (dss_cons (ds_set (i := 5) sc__law_common.nd rfl (by first | exact Or.inl rfl | exact Or.inr rfl) (de_if (dt_cmp (od_ne hr) (de_v 4) (de_tupX da_nil) (nomark _)) (de_ix (de_v 4) (de_neg de_int)) (de_tupX (da_cons (de_neg de_int) (da_cons (de_neg de_int) da_nil)))))
    (dss_one (ds_for (passes_of rfl) rfl (di_range2 T.m_range (de_op (od_addX true) (de_ix (de_v 5) de_int) de_int) (de_b cd_len T.m_len (da_cons (de_v 0) da_nil))) (dg_name (i := 6) sc__law_common.nd rfl (by first | exact Or.inl rfl | exact Or.inr rfl)) (dss_cons (ds_setLc (i := 7) true (own := [("at", 8)]) (g := (dgName 8)) (tt := (dB (dOp (rEqD2 false) (dOp rIxD (dSlot 0) (dSlot 6)) (dOp rIxD (dSlot 1) (dSlot 8))))) (te := (dSlot 8)) rfl sc__law_common.nd rfl rfl (sw_true rfl rfl rfl (by decide +kernel)) (di_range2 T.m_range (de_op (od_addX true) (de_ix (de_v 5) de_int) de_int) (de_b cd_len T.m_len (da_cons (de_v 1) da_nil))) (blkOk_by (own := [("at", 8)]) (N := N__law_common) (sc := defScope st__law_common) (by decide +kernel)) (by decide) (fun _ _ _ _ _ => (dg_name (i := 8) sc__law_common.nd rfl (by first | exact Or.inl rfl | exact Or.inr rfl))) (fun _ _ _ _ _ => (dts_one (dt_cmp (od_eq hr) (de_ix (de_v 0) (de_v 6)) (de_ix (de_v 1) (de_v 8)) (nomark _)))) (fun _ _ _ _ _ => (de_v 8)))
    (dss_one (ds_expr (de_extendT (de_v 3) (de_lc true (own := [("at", 8)]) (g := (dgName 8)) (tt := dYes) (te := (dOp (rAddX true) (dSlot 4) (dTupX (dCons (dTupX (dCons (dSlot 6) (dCons (dSlot 8) dNil))) dNil)))) rfl sc__law_common.nd (di_it (de_v 7)) (blkOk_by (own := [("at", 8)]) (N := N__law_common) (sc := defScope st__law_common) (by decide +kernel)) (by decide) (fun _ _ _ _ _ => (dg_name (i := 8) sc__law_common.nd rfl (by first | exact Or.inl rfl | exact Or.inr rfl))) (fun _ _ _ _ _ => dts_nil) (fun _ _ _ _ _ => (de_op (od_addX true) (de_v 4) (de_tupX (da_cons (de_tupX (da_cons (de_v 6) (da_cons (de_v 8) da_nil))) da_nil)))))))))))))
    (dss_cons (ds_if (dt_cmp (od_eq hr) (de_v 3) (de_lst true da_nil) (nomark _)) (dss_one (ds_ret (de_b (cd_minP hr rfl) T.m_min (da_cons (de_v 2) da_nil)))) dss_nil)
    (dss_one (ds_set (i := 2) sc__law_common.nd rfl (by first | exact Or.inl rfl | exact Or.inr rfl) (de_v 3)))))))))) read
theorem c__law_merged {k : Nat} {TT : TT8} (T : Txt K mg) {sp__law_common : DS1} (c__law_common : Cal1 P w K TT mg base k "_law_common" sp__law_common) {sp : DS1} (read : ∀ ds M Q, sp ds M Q → ds.length = 3 ∧ r__law_merged sp__law_common { nx := fun _ M' => Q .non M', rt := Q } (dstart N__law_merged ds) M) : Cal1 P w K TT mg base (k + 1) "_law_merged" sp :=
  dcal1 T.h__law_merged sc__law_merged (t := r__law_merged sp__law_common) (fun f cdv A outer s H E Y E1 hT hr gu g =>
    (dss_cons (ds_asg (de_tup (da_cons (de_bT (cd_dictT rfl) T.m_dict (da_cons (de_call1 (c__law_common.on hT) hr gu g.xt (da_cons (de_v 0) (da_cons (de_v 1) da_nil))) da_nil)) (da_cons (de_bT (cd_dictT rfl) T.m_dict (da_cons (de_call1 (c__law_common.on hT) hr gu g.xt (da_cons (de_v 0) (da_cons (de_v 2) da_nil))) da_nil)) da_nil))) (dg_tup rfl (dgs_cons (dg_name (i := 4) sc__law_merged.nd rfl (by first | exact Or.inl rfl | exact Or.inr rfl)) (dgs_cons (dg_name (i := 5) sc__law_merged.nd rfl (by first | exact Or.inl rfl | exact Or.inr rfl)) dgs_nil))))
    (dss_cons (ds_set (i := 3) sc__law_merged.nd rfl (by first | exact Or.inl rfl | exact Or.inr rfl) (de_op (od_add false) (de_lst true (da_cons (de_tup (da_cons (de_neg de_int) (da_cons (de_neg de_int) (da_cons (de_neg de_int) da_nil)))) da_nil)) (de_lc true (own := [("at", 11)]) (g := (dgName 11)) (tt := (dB (dOp rInDc (dSlot 11) (dSlot 5)))) (te := (dTup (dCons (dSlot 11) (dCons (dOp rGetDc (dSlot 4) (dSlot 11)) (dCons (dOp rGetDc (dSlot 5) (dSlot 11)) dNil))))) rfl sc__law_merged.nd (di_it (de_b (cd_sortDc true rfl) T.m_sorted (da_cons (de_v 4) da_nil))) (blkOk_by (own := [("at", 11)]) (N := N__law_merged) (sc := defScope st__law_merged) (by decide +kernel)) (by decide) (fun _ _ _ _ _ => (dg_name (i := 11) sc__law_merged.nd rfl (by first | exact Or.inl rfl | exact Or.inr rfl))) (fun _ _ _ _ _ => (dts_one (dt_cmpC hr (de_v 11) (de_v 5) (by with_unfolding_all rfl)))) (fun _ _ _ _ _ => (de_tup (da_cons (de_v 11) (da_cons (de_getDc hr (de_v 4) (de_v 11)) (da_cons (de_getDc hr (de_v 5) (de_v 11)) da_nil))))))))
    (dss_cons (ds_expr (de_append (de_v 3) (de_tup (da_cons (de_b cd_len T.m_len (da_cons (de_v 0) da_nil)) (da_cons (de_b cd_len T.m_len (da_cons (de_v 1) da_nil)) (da_cons (de_b cd_len T.m_len (da_cons (de_v 2) da_nil)) da_nil))))))
    (dss_cons (ds_par (i := 6) (j := 7) rfl sc__law_merged.nd rfl rfl (by decide) rfl rfl (da_cons (de_lst false da_nil) (da_cons (de_lst false da_nil) da_nil)))
    (dss_cons (ds_for (passes_of rfl) rfl (di_zipL T.m_zip (de_v 3) (de_slice true (de_v 3) (do_some de_int) do_none)) (dg_tup rfl (dgs_cons (dg_name (i := 8) sc__law_merged.nd rfl (by first | exact Or.inl rfl | exact Or.inr rfl)) (dgs_cons (dg_name (i := 9) sc__law_merged.nd rfl (by first | exact Or.inl rfl | exact Or.inr rfl)) dgs_nil))) (dss_cons (ds_setLc (i := 10) true (own := [("whole", 12), ("begin", 13), ("end", 14)]) (g := (dgTup 3 (dgCons (dgName 12) (dgCons (dgName 13) (dgCons (dgName 14) dgNil))))) (tt := dYes) (te := (dSl true (dSlot 12) (dPart (dOp (rAddD true) (dSlot 13) (dC (.int 1)))) (dPart (dSlot 14)))) rfl sc__law_merged.nd rfl rfl (sw_true rfl rfl rfl (by decide +kernel)) (di_zip3 T.m_zip (de_tup (da_cons (de_v 0) (da_cons (de_v 1) (da_cons (de_v 2) da_nil)))) (de_v 8) (de_v 9)) (blkOk_by (own := [("whole", 12), ("begin", 13), ("end", 14)]) (N := N__law_merged) (sc := defScope st__law_merged) (by decide +kernel)) (by decide) (fun _ _ _ _ _ => (dg_tup rfl (dgs_cons (dg_name (i := 12) sc__law_merged.nd rfl (by first | exact Or.inl rfl | exact Or.inr rfl)) (dgs_cons (dg_name (i := 13) sc__law_merged.nd rfl (by first | exact Or.inl rfl | exact Or.inr rfl)) (dgs_cons (dg_name (i := 14) sc__law_merged.nd rfl (by first | exact Or.inl rfl | exact Or.inr rfl)) dgs_nil))))) (fun _ _ _ _ _ => dts_nil) (fun _ _ _ _ _ => (de_slice true (de_v 12) (do_some (de_op (od_add true) (de_v 13) de_int)) (do_some (de_v 14)))))
    (dss_cons (ds_if (dt_cmp (od_eq hr) (de_ix (de_v 10) de_int) (de_ix (de_v 10) de_int) (nomark _)) (dss_one (ds_expr (de_extendT (de_v 6) (de_ix (de_v 10) de_int)))) (dss_one (ds_if (dt_w (dw_or (dt_cmp (od_eq hr) (de_ix (de_v 10) de_int) (de_ix (de_v 10) de_int) (nomark _)) (dw_or1 (dt_cmp (od_eq hr) (de_ix (de_v 10) de_int) (de_ix (de_v 10) de_int) (nomark _))))) (dss_one (ds_expr (de_extendT (de_v 6) (de_ix (de_v 10) de_int)))) (dss_one (ds_expr (de_append (de_v 7) (de_tup (da_cons (de_op (od_add true) (de_ix (de_v 8) de_int) de_int) (da_cons (de_ix (de_v 9) de_int) (da_cons (de_ix (de_v 10) de_int) (da_cons (de_ix (de_v 10) de_int) da_nil)))))))))))
    (dss_one (ds_expr (de_extendT (de_v 6) (de_slice true (de_v 0) (do_some (de_ix (de_v 9) de_int)) (do_some (de_op (od_add true) (de_ix (de_v 9) de_int) de_int)))))))))
    (dss_one (ds_ret (de_if (dt_cmp (od_eq hr) (de_v 7) (de_lst true da_nil) (nomark _)) (de_tup (da_cons de_str (da_cons (de_bT (cd_tup rfl) T.m_tuple (da_cons (de_v 6) da_nil)) da_nil))) (de_tup (da_cons de_str (da_cons (de_bT (cd_tup rfl) T.m_tuple (da_cons (de_v 7) da_nil)) da_nil)))))))))))) read
theorem c__law_blocks {k : Nat} {TT : TT8} (T : Txt K mg) {sp__law_common : DS1} (c__law_common : Cal1 P w K TT mg base k "_law_common" sp__law_common) {sp : DS1} (read : ∀ ds M Q, sp ds M Q → ds.length = 2 ∧ r__law_blocks sp__law_common { nx := fun _ M' => Q .non M', rt := Q } (dstart N__law_blocks ds) M) : Cal1 P w K TT mg base (k + 1) "_law_blocks" sp :=
  dcal1 T.h__law_blocks sc__law_blocks (t := r__law_blocks sp__law_common) (fun f cdv A outer s H E Y E1 hT hr gu g =>
    (dss_cons (ds_asg (de_tup (da_cons (de_call1 (c__law_common.on hT) hr gu g.xt (da_cons (de_v 0) (da_cons (de_v 1) da_nil))) (da_cons (de_lst false da_nil) (da_cons (de_tupX (da_cons (de_neg de_int) (da_cons (de_neg de_int) da_nil))) (da_cons de_int da_nil))))) (dg_tup rfl (dgs_cons (dg_name (i := 3) sc__law_blocks.nd rfl (by first | exact Or.inl rfl | exact Or.inr rfl)) (dgs_cons (dg_name (i := 4) sc__law_blocks.nd rfl (by first | exact Or.inl rfl | exact Or.inr rfl)) (dgs_cons (dg_name (i := 5) sc__law_blocks.nd rfl (by first | exact Or.inl rfl | exact Or.inr rfl)) (dgs_cons (dg_name (i := 6) sc__law_blocks.nd rfl (by first | exact Or.inl rfl | exact Or.inr rfl)) dgs_nil))))))
    (dss_cons (ds_for (passes_of rfl) rfl (di_it (de_op (od_addX true) (de_v 3) (de_tupX (da_cons (de_tupX (da_cons (de_b cd_len T.m_len (da_cons (de_v 0) da_nil)) (da_cons (de_b cd_len T.m_len (da_cons (de_v 1) da_nil)) da_nil))) da_nil)))) (dg_name (i := 2) sc__law_blocks.nd rfl (by first | exact Or.inl rfl | exact Or.inr rfl)) (dss_cons (ds_par (i := 7) (j := 8) rfl sc__law_blocks.nd rfl rfl (by decide) rfl rfl (da_cons (de_slice true (de_v 0) (do_some (de_op (od_addX true) (de_ix (de_v 5) de_int) de_int)) (do_some (de_ix (de_v 2) de_int))) (da_cons (de_slice true (de_v 1) (do_some (de_op (od_addX true) (de_ix (de_v 5) de_int) de_int)) (do_some (de_ix (de_v 2) de_int))) da_nil)))
    (dss_cons (ds_if (dt_w (dw_or (dt_cmp (od_ne hr) (de_v 7) (de_tupX da_nil) (nomark _)) (dw_or1 (dt_cmp (od_ne hr) (de_v 8) (de_tupX da_nil) (nomark _))))) (dss_cons (ds_expr (de_extendT (de_v 4) (de_if (dt_cmp od_gt (de_v 6) de_int (nomark _)) (de_lst true (da_cons (de_tupX (da_cons de_str (da_cons (de_v 6) da_nil))) da_nil)) (de_lst true da_nil))))
    (dss_cons (ds_expr (de_append (de_v 4) (de_tupX (da_cons de_str (da_cons (de_v 7) (da_cons (de_v 8) da_nil))))))
    (dss_one (ds_set (i := 6) sc__law_blocks.nd rfl (by first | exact Or.inl rfl | exact Or.inr rfl) de_int)))) dss_nil)
    (dss_one (ds_par (i := 5) (j := 6) rfl sc__law_blocks.nd rfl rfl (by decide) rfl rfl (da_cons (de_v 2) (da_cons (de_op (od_addX true) (de_v 6) de_int) da_nil)))))))
    (dss_one (ds_ret (de_bT (cd_tup rfl) T.m_tuple (da_cons (de_op (od_addX true) (de_v 4) (de_if (dt_cmp od_gt (de_v 6) de_int (nomark _)) (de_lst true (da_cons (de_tupX (da_cons de_str (da_cons (de_op od_sub (de_v 6) de_int) da_nil))) da_nil)) (de_lst true da_nil))) da_nil))))))) read
theorem c__law_is_changed {k : Nat} {TT : TT8} (T : Txt K mg) {sp__law_is_int : DS1} (c__law_is_int : Cal1 P w K TT mg base k "_law_is_int" sp__law_is_int) {sp__law_is_row : DS1} (c__law_is_row : Cal1 P w K TT mg base k "_law_is_row" sp__law_is_row) {sp : DS1} (read : ∀ ds M Q, sp ds M Q → ds.length = 2 ∧ r__law_is_changed sp__law_is_int sp__law_is_row { nx := fun _ M' => Q .non M', rt := Q } (dstart N__law_is_changed ds) M) : Cal1 P w K TT mg base (k + 1) "_law_is_changed" sp :=
  dcal1 T.h__law_is_changed sc__law_is_changed (t := r__law_is_changed sp__law_is_int sp__law_is_row) (fun f cdv A outer s H E Y E1 hT hr gu g =>
    (dss_cons (ds_if (dt_w (dw_or (dt_not (dt_val (de_isi T.m_isinstance T.m_tuple (de_v 1)))) (dw_or1 (dt_cmp od_gt (de_b cd_len T.m_len (da_cons (de_v 1) da_nil)) de_int (nomark _))))) (dss_one (ds_ret (de_tup (da_cons de_bl (da_cons (de_tup da_nil) da_nil))))) dss_nil)
    (dss_cons (ds_asg (de_tup (da_cons (de_tup da_nil) (da_cons de_int da_nil))) (dg_tup rfl (dgs_cons (dg_name (i := 3) sc__law_is_changed.nd rfl (by first | exact Or.inl rfl | exact Or.inr rfl)) (dgs_cons (dg_name (i := 4) sc__law_is_changed.nd rfl (by first | exact Or.inl rfl | exact Or.inr rfl)) dgs_nil))))
    (dss_cons (ds_for (passes_of rfl) rfl (di_it (de_v 1)) (dg_name (i := 2) sc__law_is_changed.nd rfl (by first | exact Or.inl rfl | exact Or.inr rfl)) (dss_cons (ds_if (dt_w (dw_or (dt_not (dt_val (de_isi T.m_isinstance T.m_tuple (de_v 2)))) (dw_or (dt_cmp od_notIn (de_b cd_len T.m_len (da_cons (de_v 2) da_nil)) (de_tup (da_cons de_int (da_cons de_int da_nil))) (by with_unfolding_all rfl)) (dw_or1 (dt_not (dt_val (de_isi T.m_isinstance T.m_str (de_ix (de_v 2) de_int)))))))) (dss_one (ds_ret (de_tup (da_cons de_bl (da_cons (de_tup da_nil) da_nil))))) dss_nil)
    (dss_one (ds_if (dt_cmp (od_eq hr) (de_b cd_len T.m_len (da_cons (de_v 2) da_nil)) de_int (nomark _)) (dss_cons (ds_if (dt_w (dw_or (dt_cmp (od_ne hr) (de_ix (de_v 2) de_int) de_str (nomark _)) (dw_or1 (dt_not (dt_val (de_call1 (c__law_is_int.on hT) hr gu g.xt (da_cons (de_ix (de_v 2) de_int) (da_cons de_int (da_cons (de_op od_sub (de_b cd_len T.m_len (da_cons (de_v 0) da_nil)) (de_v 4)) da_nil))))))))) (dss_one (ds_ret (de_tup (da_cons de_bl (da_cons (de_tup da_nil) da_nil))))) dss_nil)
    (dss_one (ds_par (i := 3) (j := 4) rfl sc__law_is_changed.nd rfl rfl (by decide) rfl rfl (da_cons (de_op (od_add true) (de_v 3) (de_slice true (de_v 0) (do_some (de_v 4)) (do_some (de_op (od_add true) (de_v 4) (de_ix (de_v 2) de_int))))) (da_cons (de_op (od_add true) (de_v 4) (de_ix (de_v 2) de_int)) da_nil))))) (dss_cons (ds_if (dt_w (dw_or (dt_cmp (od_ne hr) (de_ix (de_v 2) de_int) de_str (nomark _)) (dw_or1 (dt_not (dt_val (de_b (cd_all rfl) T.m_all (da_cons (de_lc true (own := [("part", 5)]) (g := (dgName 5)) (tt := dYes) (te := (dCall1 sp__law_is_row (dCons (dSlot 5) dNil))) rfl sc__law_is_changed.nd (di_it (de_slice true (de_v 2) (do_some de_int) do_none)) (blkOk_by (own := [("part", 5)]) (N := N__law_is_changed) (sc := defScope st__law_is_changed) (by decide +kernel)) (by decide) (fun _ _ _ _ _ => (dg_name (i := 5) sc__law_is_changed.nd rfl (by first | exact Or.inl rfl | exact Or.inr rfl))) (fun _ _ _ _ _ => dts_nil) (fun _ _ _ _ _ => (de_call1 (c__law_is_row.on hT) hr gu g.xt (da_cons (de_v 5) da_nil)))) da_nil))))))) (dss_one (ds_ret (de_tup (da_cons de_bl (da_cons (de_tup da_nil) da_nil))))) dss_nil)
    (dss_cons (ds_if (dt_cmp (od_ne hr) (de_slice true (de_v 0) (do_some (de_v 4)) (do_some (de_op (od_add true) (de_v 4) (de_b cd_len T.m_len (da_cons (de_ix (de_v 2) de_int) da_nil))))) (de_ix (de_v 2) de_int) (nomark _)) (dss_one (ds_ret (de_tup (da_cons de_bl (da_cons (de_tup da_nil) da_nil))))) dss_nil)
    (dss_one (ds_par (i := 3) (j := 4) rfl sc__law_is_changed.nd rfl rfl (by decide) rfl rfl (da_cons (de_op (od_add true) (de_v 3) (de_ix (de_v 2) de_int)) (da_cons (de_op (od_add true) (de_v 4) (de_b cd_len T.m_len (da_cons (de_ix (de_v 2) de_int) da_nil))) da_nil))))))))))
    (dss_one (ds_ret (de_tup (da_cons (de_cmp (od_eq hr) (de_v 4) (de_b cd_len T.m_len (da_cons (de_v 0) da_nil)) (nomark _)) (da_cons (de_v 3) da_nil))))))))) read
theorem c__law_is_row {k : Nat} {TT : TT8} (T : Txt K mg) {sp__law_is_text : DS1} (c__law_is_text : Cal1 P w K TT mg base k "_law_is_text" sp__law_is_text) {sp : DS1} (read : ∀ ds M Q, sp ds M Q → ds.length = 1 ∧ r__law_is_row sp__law_is_text { nx := fun _ M' => Q .non M', rt := Q } (dstart N__law_is_row ds) M) : Cal1 P w K TT mg base (k + 1) "_law_is_row" sp :=
  dcal1 T.h__law_is_row sc__law_is_row (t := r__law_is_row sp__law_is_text) (fun f cdv A outer s H E Y E1 hT hr gu g =>
    (dss_cons (ds_if (dt_w (dw_or (dt_not (dt_val (de_isi T.m_isinstance T.m_tuple (de_v 0)))) (dw_or1 (dt_cmp od_gt (de_b cd_len T.m_len (da_cons (de_v 0) da_nil)) de_int (nomark _))))) (dss_one (ds_ret de_bl)) dss_nil)
    (dss_one (ds_ret (de_b (cd_all rfl) T.m_all (da_cons (de_lc true (own := [("text", 1)]) (g := (dgName 1)) (tt := dYes) (te := (dAndV (dCall1 sp__law_is_text (dCons (dSlot 1) dNil)) (dOp rLtD (dCB rLen (dCons (dSlot 1) dNil)) (dC (.int 101))))) rfl sc__law_is_row.nd (di_it (de_v 0)) (blkOk_by (own := [("text", 1)]) (N := N__law_is_row) (sc := defScope st__law_is_row) (by decide +kernel)) (by decide) (fun _ _ _ _ _ => (dg_name (i := 1) sc__law_is_row.nd rfl (by first | exact Or.inl rfl | exact Or.inr rfl))) (fun _ _ _ _ _ => dts_nil) (fun _ _ _ _ _ => (de_and (de_call1 (c__law_is_text.on hT) hr gu g.xt (da_cons (de_v 1) da_nil)) (de_one (de_cmp od_lt (de_b cd_len T.m_len (da_cons (de_v 1) da_nil)) de_int (nomark _)))))) da_nil)))))) read
theorem c__law_right {k : Nat} {TT : TT8} (T : Txt K mg) {CS C_BadRow : Addr} (XK : Kns K mg CS C_BadRow) {sp__law_rows : DS1} (c__law_rows : Cal1 P w K TT mg base k "_law_rows" sp__law_rows) {sp__law_take : DS1} (c__law_take : Cal1 P w K TT mg base k "_law_take" sp__law_take) {sp__law_edited : DS1} (c__law_edited : Cal1 P w K TT mg base k "_law_edited" sp__law_edited) {sp_common : DSp} (c_common : Cal P w K TT mg base k "common" [] sp_common) {sp__law_common : DS1} (c__law_common : Cal1 P w K TT mg base k "_law_common" sp__law_common) {sp_changes : DSp} (c_changes : Cal P w K TT mg base k "changes" [] sp_changes) {sp__law_blocks : DS1} (c__law_blocks : Cal1 P w K TT mg base k "_law_blocks" sp__law_blocks) {sp_changed : DSp} (c_changed : Cal P w K TT mg base k "changed" [] sp_changed) {sp__law_odd : DS1} (c__law_odd : Cal1 P w K TT mg base k "_law_odd" sp__law_odd) {sp__law_bent : DS1} (c__law_bent : Cal1 P w K TT mg base k "_law_bent" sp__law_bent) {sp__law_is_changed : DS1} (c__law_is_changed : Cal1 P w K TT mg base k "_law_is_changed" sp__law_is_changed) {sp_merged : DSp} (c_merged : Cal P w K TT mg base k "merged" [] sp_merged) {sp__law_merged : DS1} (c__law_merged : Cal1 P w K TT mg base k "_law_merged" sp__law_merged) {cc PP : Addr} (tb : LamX.TabB base mg cc PP) (inT : (PP, lamQ "_law_right") ∈ TT) (onlyT : ∀ p ∈ TT, p.1 = PP → p.2 = lamQ "_law_right") (hL : HasL K mg "_law_right" st__law_right ["pot"] cc) {sp : DS1} (read : ∀ ds M Q, sp ds M Q → ds.length = 1 ∧ r__law_right sp__law_rows sp__law_take sp__law_edited sp_common sp__law_common sp_changes sp__law_blocks sp_changed sp__law_odd sp__law_bent sp__law_is_changed sp_merged sp__law_merged { nx := fun _ M' => Q .non M', rt := Q } (dstart N__law_right ds) M) : Cal1 P w K TT mg base (k + 3) "_law_right" sp :=
  dcalL hL sc__law_right (t := fun _ => r__law_right sp__law_rows sp__law_take sp__law_edited sp_common sp__law_common sp_changes sp__law_blocks sp_changed sp__law_odd sp__law_bent sp__law_is_changed sp_merged sp__law_merged) (fun f A outer s H E Y E1 hT hr gu g =>
    (dss_cons (ds_set (i := 1) sc__law_right.nd rfl (by first | exact Or.inl rfl | exact Or.inr rfl) (de_call1 ((c__law_rows.mono (Nat.le_add_right _ 2)).on hT) hr gu g.xt (da_cons (de_v 0) (da_cons (de_lst true (da_cons de_str (da_cons de_str (da_cons de_str (da_cons de_str (da_cons de_str da_nil)))))) (da_cons de_int da_nil)))))
    (dss_cons (ds_set (i := 2) sc__law_right.nd rfl (by first | exact Or.inl rfl | exact Or.inr rfl) (de_if (dt_cmp od_gt (de_call1 ((c__law_take.mono (Nat.le_add_right _ 2)).on hT) hr gu g.xt (da_cons (de_v 0) (da_cons de_int da_nil))) de_int (nomark _)) (de_call1 ((c__law_edited.mono (Nat.le_add_right _ 2)).on hT) hr gu g.xt (da_cons (de_v 0) (da_cons (de_v 1) da_nil))) (de_v 1)))
    (dss_cons (ds_set (i := 3) sc__law_right.nd rfl (by first | exact Or.inl rfl | exact Or.inr rfl) (de_if (dt_cmp od_gt (de_call1 ((c__law_take.mono (Nat.le_add_right _ 2)).on hT) hr gu g.xt (da_cons (de_v 0) (da_cons de_int da_nil))) de_int (nomark _)) (de_call1 ((c__law_edited.mono (Nat.le_add_right _ 2)).on hT) hr gu g.xt (da_cons (de_v 0) (da_cons (de_v 1) da_nil))) (de_v 2)))
    (dss_cons (ds_if (dt_cmp od_gt (de_b (cd_maxL rfl) T.m_max (da_cons (de_lc true (own := [("row", 13)]) (g := (dgName 13)) (tt := dYes) (te := (dCB rLen (dCons (dSlot 13) dNil))) rfl sc__law_right.nd (di_it (de_tup (da_cons (de_v 1) (da_cons (de_v 2) (da_cons (de_v 3) da_nil))))) (blkOk_by (own := [("row", 13)]) (N := N__law_right) (sc := defScope st__law_right) (by decide +kernel)) (by decide) (fun _ _ _ _ _ => (dg_name (i := 13) sc__law_right.nd rfl (by first | exact Or.inl rfl | exact Or.inr rfl))) (fun _ _ _ _ _ => dts_nil) (fun _ _ _ _ _ => (de_b cd_len T.m_len (da_cons (de_v 13) da_nil)))) da_nil)) de_int (nomark _)) (dss_one (ds_ret de_bl)) dss_nil)
    (dss_cons (ds_if (dt_cmp (od_ne hr) (de_b (cd_repr hr gu) T.m_repr (da_cons (de_callE ((c_common.mono (Nat.le_add_right _ 2)).on hT) hr gu g.xt.none (da_cons (de_v 2) (da_cons (de_v 3) da_nil))) da_nil)) (de_b (cd_repr hr gu) T.m_repr (da_cons (de_call1 ((c__law_common.mono (Nat.le_add_right _ 2)).on hT) hr gu g.xt (da_cons (de_v 2) (da_cons (de_v 3) da_nil))) da_nil)) (nomark _)) (dss_one (ds_ret de_bl)) dss_nil)
    (dss_cons (ds_set (i := 4) sc__law_right.nd rfl (by first | exact Or.inl rfl | exact Or.inr rfl) (de_callE ((c_changes.mono (Nat.le_add_right _ 2)).on hT) hr gu g.xt.none (da_cons (de_v 2) (da_cons (de_v 3) da_nil))))
    (dss_cons (ds_if (dt_w (dw_or (dt_cmp (od_ne hr) (de_b (cd_repr hr gu) T.m_repr (da_cons (de_v 4) da_nil)) (de_b (cd_repr hr gu) T.m_repr (da_cons (de_call1 ((c__law_blocks.mono (Nat.le_add_right _ 2)).on hT) hr gu g.xt (da_cons (de_v 2) (da_cons (de_v 3) da_nil))) da_nil)) (nomark _)) (dw_or1 (dt_cmp (od_ne hr) (de_b (cd_repr hr gu) T.m_repr (da_cons (de_callE ((c_changed.mono (Nat.le_add_right _ 2)).on hT) hr gu g.xt.none (da_cons (de_v 2) (da_cons (de_v 4) da_nil))) da_nil)) (de_b (cd_repr hr gu) T.m_repr (da_cons (de_v 3) da_nil)) (nomark _))))) (dss_one (ds_ret de_bl)) dss_nil)
    (dss_cons (ds_for (passes_of rfl) rfl (di_it (de_op (od_add true) (de_lst true (da_cons (de_v 4) (da_cons (de_bT (cd_list true) T.m_list (da_cons (de_v 4) da_nil)) (da_cons (de_call1 ((c__law_odd.mono (Nat.le_add_right _ 2)).on hT) hr gu g.xt (da_cons (de_v 0) da_nil)) (da_cons (de_tup (da_cons (de_tup (da_cons de_str (da_cons (de_b cd_len T.m_len (da_cons (de_v 2) da_nil)) da_nil))) da_nil)) da_nil))))) (de_lc true (own := [("lap", 12)]) (g := (dgName 12)) (tt := dYes) (te := (dCall1 sp__law_bent (dCons (dSlot 0) (dCons (dSlot 4) dNil)))) rfl sc__law_right.nd (di_range1 T.m_range de_int) (blkOk_by (own := [("lap", 12)]) (N := N__law_right) (sc := defScope st__law_right) (by decide +kernel)) (by decide) (fun _ _ _ _ _ => (dg_name (i := 12) sc__law_right.nd rfl (by first | exact Or.inl rfl | exact Or.inr rfl))) (fun _ _ _ _ _ => dts_nil) (fun _ _ _ _ _ => (de_call1 ((c__law_bent.mono (Nat.le_add_right _ 2)).on hT) hr gu g.xt (da_cons (de_v 0) (da_cons (de_v 4) da_nil))))))) (dg_name (i := 5) sc__law_right.nd rfl (by first | exact Or.inl rfl | exact Or.inr rfl)) (dss_cons (ds_asg (de_call1 ((c__law_is_changed.mono (Nat.le_add_right _ 2)).on hT) hr gu g.xt (da_cons (de_v 2) (da_cons (de_v 5) da_nil))) (dg_tup rfl (dgs_cons (dg_name (i := 8) sc__law_right.nd rfl (by first | exact Or.inl rfl | exact Or.inr rfl)) (dgs_cons (dg_name (i := 9) sc__law_right.nd rfl (by first | exact Or.inl rfl | exact Or.inr rfl)) dgs_nil))))
    (dss_cons (ds_asg (de_heard (X := cxOf (L2.CX P w) P w K mg base N__law_right "_law_right" (defScope st__law_right) f (.ref cc) A outer s H E) (Y := Y) (ok := kn) (td := fun E1 => (dCallE sp_changed (dCons (dSlot 2) (dCons (dSlot 5) dNil)) E1)) T.h__law_heard sc__law_heard (give_heard XK.mT) tb rfl (by rw [hT]; exact inT) (by rw [hT]; exact onlyT) XK.sub hr gu g.xt (LamX.lamS_by (sc := defScope st__law_right) (by decide +kernel)) (fun A outer s H E f c' Y' E1 hT' hr gu g => (de_callE (c_changed.on (hT'.trans hT)) hr gu g (da_cons (de_v 2) (da_cons (de_v 5) da_nil))))) (dg_tup rfl (dgs_cons (dg_name (i := 10) sc__law_right.nd rfl (by first | exact Or.inl rfl | exact Or.inr rfl)) (dgs_cons (dg_name (i := 11) sc__law_right.nd rfl (by first | exact Or.inl rfl | exact Or.inr rfl)) dgs_nil))))
    (dss_cons (ds_if (dt_w (dw_and (dt_val (de_v 8)) (dw_and1 (dt_cmp (od_ne hr) (de_b (cd_repr hr gu) T.m_repr (da_cons (de_v 11) da_nil)) (de_b (cd_repr hr gu) T.m_repr (da_cons (de_v 9) da_nil)) (nomark _))))) (dss_one (ds_ret de_bl)) dss_nil)
    (dss_one (ds_if (dt_w (dw_and (dt_not (dt_val (de_v 8))) (dw_and1 (dt_not (dt_w (dw_and (dt_val (de_isE XK.known XK.sub_BadRow T.m_isinstance XK.m_BadRow (de_v 10))) (dw_and1 (dt_cmp (od_eq hr) (de_b (cd_repr hr gu) T.m_repr (da_cons (de_excV XK.known (de_v 10)) da_nil)) (de_b (cd_repr hr gu) T.m_repr (da_cons (de_v 5) da_nil)) (nomark _))))))))) (dss_one (ds_ret de_bl)) dss_nil))))))
    (dss_cons (ds_set (i := 4) sc__law_right.nd rfl (by first | exact Or.inl rfl | exact Or.inr rfl) (de_callE ((c_merged.mono (Nat.le_add_right _ 2)).on hT) hr gu g.xt.none (da_cons (de_v 1) (da_cons (de_v 2) (da_cons (de_v 3) da_nil)))))
    (dss_cons (ds_if (dt_cmp (od_ne hr) (de_b (cd_repr hr gu) T.m_repr (da_cons (de_v 4) da_nil)) (de_b (cd_repr hr gu) T.m_repr (da_cons (de_call1 ((c__law_merged.mono (Nat.le_add_right _ 2)).on hT) hr gu g.xt (da_cons (de_v 1) (da_cons (de_v 2) (da_cons (de_v 3) da_nil)))) da_nil)) (nomark _)) (dss_one (ds_ret de_bl)) dss_nil)
    (dss_cons (ds_set (i := 6) sc__law_right.nd rfl (by first | exact Or.inl rfl | exact Or.inr rfl) (de_callE ((c_merged.mono (Nat.le_add_right _ 2)).on hT) hr gu g.xt.none (da_cons (de_v 1) (da_cons (de_v 3) (da_cons (de_v 2) da_nil)))))
    (dss_cons (ds_if (dt_w (dw_and (dt_cmp (od_eq hr) (de_ix (de_v 4) de_int) de_str (nomark _)) (dw_and1 (dt_cmp (od_ne hr) (de_v 6) (de_v 4) (nomark _))))) (dss_one (ds_ret de_bl)) dss_nil)
    (dss_cons (ds_if (dt_w (dw_and (dt_cmp (od_eq hr) (de_ix (de_v 4) de_int) de_str (nomark _)) (dw_and1 (dt_cmp (od_ne hr) (de_ix (de_v 6) de_int) (de_bT (cd_tup rfl) T.m_tuple (da_cons (de_lc true (own := [("begin", 14), ("end", 15), ("mine", 16), ("its", 17)]) (g := (dgTup 4 (dgCons (dgName 14) (dgCons (dgName 15) (dgCons (dgName 16) (dgCons (dgName 17) dgNil)))))) (tt := dYes) (te := (dTup (dCons (dSlot 14) (dCons (dSlot 15) (dCons (dSlot 17) (dCons (dSlot 16) dNil)))))) rfl sc__law_right.nd (di_it (de_ix (de_v 4) de_int)) (blkOk_by (own := [("begin", 14), ("end", 15), ("mine", 16), ("its", 17)]) (N := N__law_right) (sc := defScope st__law_right) (by decide +kernel)) (by decide) (fun _ _ _ _ _ => (dg_tup rfl (dgs_cons (dg_name (i := 14) sc__law_right.nd rfl (by first | exact Or.inl rfl | exact Or.inr rfl)) (dgs_cons (dg_name (i := 15) sc__law_right.nd rfl (by first | exact Or.inl rfl | exact Or.inr rfl)) (dgs_cons (dg_name (i := 16) sc__law_right.nd rfl (by first | exact Or.inl rfl | exact Or.inr rfl)) (dgs_cons (dg_name (i := 17) sc__law_right.nd rfl (by first | exact Or.inl rfl | exact Or.inr rfl)) dgs_nil)))))) (fun _ _ _ _ _ => dts_nil) (fun _ _ _ _ _ => (de_tup (da_cons (de_v 14) (da_cons (de_v 15) (da_cons (de_v 17) (da_cons (de_v 16) da_nil))))))) da_nil)) (nomark _))))) (dss_one (ds_ret de_bl)) dss_nil)
    (dss_cons (ds_set (i := 7) sc__law_right.nd rfl (by first | exact Or.inl rfl | exact Or.inr rfl) (de_lst true (da_cons (de_callE ((c_merged.mono (Nat.le_add_right _ 2)).on hT) hr gu g.xt.none (da_cons (de_v 1) (da_cons (de_v 1) (da_cons (de_v 3) da_nil)))) (da_cons (de_callE ((c_merged.mono (Nat.le_add_right _ 2)).on hT) hr gu g.xt.none (da_cons (de_v 1) (da_cons (de_v 3) (da_cons (de_v 1) da_nil)))) (da_cons (de_callE ((c_merged.mono (Nat.le_add_right _ 2)).on hT) hr gu g.xt.none (da_cons (de_v 1) (da_cons (de_v 3) (da_cons (de_v 3) da_nil)))) da_nil)))))
    (dss_one (ds_ret (de_cmp (od_eq hr) (de_v 7) (de_op (od_mul true) (de_lst true (da_cons (de_tup (da_cons de_str (da_cons (de_v 3) da_nil))) da_nil)) de_int) (nomark _))))))))))))))))))) (fun ds M Q E => read ds M Q)
theorem c_law {k : Nat} {TT : TT8} (T : Txt K mg) {CS C_BadRow : Addr} (XK : Kns K mg CS C_BadRow) {sp__law_places : DS1} (c__law_places : Cal1 P w K TT mg base k "_law_places" sp__law_places) {sp__law_pot : DS1} (c__law_pot : Cal1 P w K TT mg base k "_law_pot" sp__law_pot) {sp__law_right : DS1} (c__law_right : Cal1 P w K TT mg base k "_law_right" sp__law_right) {sp_common : DSp} (c_common : Cal P w K TT mg base k "common" [] sp_common) {sp_changes : DSp} (c_changes : Cal P w K TT mg base k "changes" [] sp_changes) {sp_changed : DSp} (c_changed : Cal P w K TT mg base k "changed" [] sp_changed) {sp_merged : DSp} (c_merged : Cal P w K TT mg base k "merged" [] sp_merged) {cc PP : Addr} (tb : LamX.TabB base mg cc PP) (inT : (PP, lamQ "law") ∈ TT) (onlyT : ∀ p ∈ TT, p.1 = PP → p.2 = lamQ "law") {sp : DS1} {f : Addr} {oc : Value} {od : Option Addr} {dV kV doc pm : Value} {an : Option Addr} {ct : Value} {osl : Array (Option Value)} (lk : K.lookup f = some ⟨oc, od, .func (PySem.W.fnOf "law" "law" (defArgs st_law) (defBody st_law) (defScope st_law) dV kV doc pm an (.ref cc) ct), osl⟩) (hcd : PySem.W.codeIn K (.ref cc) "law" = true) (read : ∀ ds M Q, sp ds M Q → ds.length = 1 ∧ ∀ (lq : Str) (P0 : Addr → Addr → Heap → Prop) (P1 : Addr → Addr → Heap → Prop) (P2 : Addr → Addr → Heap → Prop) (P3 : Addr → Addr → Heap → Prop) (P4 : Addr → Addr → Heap → Prop) (P5 : Addr → Addr → Heap → Prop), r_law sp__law_places sp__law_pot sp__law_right sp_common sp_changes sp_changed sp_merged lq P0 P1 P2 P3 P4 P5 { nx := fun _ M' => Q .non M', rt := Q } (dstart N_law ds) M) : GnOk P w K mg base (L2.CX P w) (k + 3) f (PySem.W.fnOf "law" "law" (defArgs st_law) (defBody st_law) (defScope st_law) dV kV doc pm an (.ref cc) ct) ["script"] (lift K TT (quiet sp)) :=
  dgnL lk hcd sc_law (t := fun _ D ρ M => ∀ (lq : Str) (P0 : Addr → Addr → Heap → Prop) (P1 : Addr → Addr → Heap → Prop) (P2 : Addr → Addr → Heap → Prop) (P3 : Addr → Addr → Heap → Prop) (P4 : Addr → Addr → Heap → Prop) (P5 : Addr → Addr → Heap → Prop), r_law sp__law_places sp__law_pot sp__law_right sp_common sp_changes sp_changed sp_merged lq P0 P1 P2 P3 P4 P5 D ρ M) (fun A outer s H E Y E1 hT hr gu g =>
    dss_weak ((dss_cons (ds_for (passes_of rfl) rfl (di_it (de_call1 ((c__law_places.mono (Nat.le_add_right _ 2)).on hT) hr gu g.xt (da_cons (de_v 0) (da_cons de_int da_nil)))) (dg_name (i := 1) sc_law.nd rfl (by first | exact Or.inl rfl | exact Or.inr rfl)) (dss_cons (ds_set (i := 5) sc_law.nd rfl (by first | exact Or.inl rfl | exact Or.inr rfl) (de_call1 ((c__law_pot.mono (Nat.le_add_right _ 2)).on hT) hr gu g.xt (da_cons (de_v 0) (da_cons (de_v 1) da_nil))))
    (dss_one (ds_if (dt_not (dt_val (de_b (cd_all rfl) T.m_all (da_cons (de_lc true (own := [("lap", 10)]) (g := (dgName 10)) (tt := dYes) (te := (dCall1 sp__law_right (dCons (dSlot 5) dNil))) rfl sc_law.nd (di_range1 T.m_range de_int) (blkOk_by (own := [("lap", 10)]) (N := N_law) (sc := defScope st_law) (by decide +kernel)) (by decide) (fun _ _ _ _ _ => (dg_name (i := 10) sc_law.nd rfl (by first | exact Or.inl rfl | exact Or.inr rfl))) (fun _ _ _ _ _ => dts_nil) (fun _ _ _ _ _ => (de_call1 ((c__law_right.mono (Nat.le_add_right _ 2)).on hT) hr gu g.xt (da_cons (de_v 5) da_nil)))) da_nil)))) (dss_one (ds_ret de_bl)) dss_nil))))
    (dss_cons (ds_for (passes_of rfl) rfl (di_it (de_tup (da_cons de_non (da_cons (de_lst true (da_cons de_str da_nil)) (da_cons (de_op od_repT (de_tup (da_cons de_str da_nil)) de_int) (da_cons (de_tup (da_cons (de_op (od_mul true) de_str de_int) da_nil)) (da_cons (de_tup (da_cons de_str da_nil)) (da_cons (de_tup (da_cons de_int da_nil)) (da_cons de_str da_nil))))))))) (dg_name (i := 2) sc_law.nd rfl (by first | exact Or.inl rfl | exact Or.inr rfl)) (dss_cons (ds_set (i := 6) sc_law.nd rfl (by first | exact Or.inl rfl | exact Or.inr rfl) (de_lst false (da_cons (de_lamX (X := cxOf (L2.CX P w) P w K mg base N_law "law" (defScope st_law) f (.ref cc) A outer s H E) (Y := Y) tb rfl (by rw [hT]; exact inT) (by rw [hT]; exact onlyT) g.xt (LamX.lamS_by (sc := defScope st_law) (by decide +kernel))) da_nil)))
    (dss_cons (ds_expr (de_append (de_v 6) (de_lamX (X := cxOf (L2.CX P w) P w K mg base N_law "law" (defScope st_law) f (.ref cc) A outer s H E) (Y := Y) tb rfl (by rw [hT]; exact inT) (by rw [hT]; exact onlyT) g.xt (LamX.lamS_by (sc := defScope st_law) (by decide +kernel)))))
    (dss_cons (ds_expr (de_append (de_v 6) (de_lamX (X := cxOf (L2.CX P w) P w K mg base N_law "law" (defScope st_law) f (.ref cc) A outer s H E) (Y := Y) tb rfl (by rw [hT]; exact inT) (by rw [hT]; exact onlyT) g.xt (LamX.lamS_by (sc := defScope st_law) (by decide +kernel)))))
    (dss_cons (ds_expr (de_append (de_v 6) (de_lamX (X := cxOf (L2.CX P w) P w K mg base N_law "law" (defScope st_law) f (.ref cc) A outer s H E) (Y := Y) tb rfl (by rw [hT]; exact inT) (by rw [hT]; exact onlyT) g.xt (LamX.lamS_by (sc := defScope st_law) (by decide +kernel)))))
    (dss_cons (ds_expr (de_append (de_v 6) (de_lamX (X := cxOf (L2.CX P w) P w K mg base N_law "law" (defScope st_law) f (.ref cc) A outer s H E) (Y := Y) tb rfl (by rw [hT]; exact inT) (by rw [hT]; exact onlyT) g.xt (LamX.lamS_by (sc := defScope st_law) (by decide +kernel)))))
    (dss_cons (ds_expr (de_append (de_v 6) (de_lamX (X := cxOf (L2.CX P w) P w K mg base N_law "law" (defScope st_law) f (.ref cc) A outer s H E) (Y := Y) tb rfl (by rw [hT]; exact inT) (by rw [hT]; exact onlyT) g.xt (LamX.lamS_by (sc := defScope st_law) (by decide +kernel)))))
    (dss_one (ds_for (passes_of rfl) rfl (di_it (de_v 6)) (dg_name (i := 7) sc_law.nd rfl (by first | exact Or.inl rfl | exact Or.inr rfl)) (dss_cons (ds_set (i := 8) sc_law.nd rfl (by first | exact Or.inl rfl | exact Or.inr rfl) (de_ix (de_either (de_heardV (X := cxOf (L2.CX P w) P w K mg base N_law "law" (defScope st_law) f (.ref cc) A outer s H E) (Y := Y) (j := 7) (ok := kn) (td := fun E1 => (dCallE sp_common (dCons (dSlot 2) (dCons (dC .non) dNil)) E1)) T.h__law_heard sc__law_heard (give_heardK XK.mT) XK.sub hr gu g.xt (LamX.lamS_by (sc := defScope st_law) (by decide +kernel)) (fun A outer s H E f c' Y' E1 hT' hr gu g => (de_callE (c_common.on (hT'.trans hT)) hr gu g (da_cons (de_v 2) (da_cons de_non da_nil))))) (de_either (de_heardV (X := cxOf (L2.CX P w) P w K mg base N_law "law" (defScope st_law) f (.ref cc) A outer s H E) (Y := Y) (j := 7) (ok := kn) (td := fun E1 => (dCallE sp_common (dCons (dTup dNil) (dCons (dSlot 2) dNil)) E1)) T.h__law_heard sc__law_heard (give_heardK XK.mT) XK.sub hr gu g.xt (LamX.lamS_by (sc := defScope st_law) (by decide +kernel)) (fun A outer s H E f c' Y' E1 hT' hr gu g => (de_callE (c_common.on (hT'.trans hT)) hr gu g (da_cons (de_tup da_nil) (da_cons (de_v 2) da_nil))))) (de_either (de_heardV (X := cxOf (L2.CX P w) P w K mg base N_law "law" (defScope st_law) f (.ref cc) A outer s H E) (Y := Y) (j := 7) (ok := kn) (td := fun E1 => (dCallE sp_changes (dCons (dSlot 2) (dCons (dC .non) dNil)) E1)) T.h__law_heard sc__law_heard (give_heardK XK.mT) XK.sub hr gu g.xt (LamX.lamS_by (sc := defScope st_law) (by decide +kernel)) (fun A outer s H E f c' Y' E1 hT' hr gu g => (de_callE (c_changes.on (hT'.trans hT)) hr gu g (da_cons (de_v 2) (da_cons de_non da_nil))))) (de_either (de_heardV (X := cxOf (L2.CX P w) P w K mg base N_law "law" (defScope st_law) f (.ref cc) A outer s H E) (Y := Y) (j := 7) (ok := kn) (td := fun E1 => (dCallE sp_changed (dCons (dSlot 2) (dCons (dC .non) dNil)) E1)) T.h__law_heard sc__law_heard (give_heardK XK.mT) XK.sub hr gu g.xt (LamX.lamS_by (sc := defScope st_law) (by decide +kernel)) (fun A outer s H E f c' Y' E1 hT' hr gu g => (de_callE (c_changed.on (hT'.trans hT)) hr gu g (da_cons (de_v 2) (da_cons de_non da_nil))))) (de_either (de_heardV (X := cxOf (L2.CX P w) P w K mg base N_law "law" (defScope st_law) f (.ref cc) A outer s H E) (Y := Y) (j := 7) (ok := kn) (td := fun E1 => (dCallE sp_merged (dCons (dTup dNil) (dCons (dSlot 2) (dCons (dC .non) dNil))) E1)) T.h__law_heard sc__law_heard (give_heardK XK.mT) XK.sub hr gu g.xt (LamX.lamS_by (sc := defScope st_law) (by decide +kernel)) (fun A outer s H E f c' Y' E1 hT' hr gu g => (de_callE (c_merged.on (hT'.trans hT)) hr gu g (da_cons (de_tup da_nil) (da_cons (de_v 2) (da_cons de_non da_nil)))))) (de_either (de_heardV (X := cxOf (L2.CX P w) P w K mg base N_law "law" (defScope st_law) f (.ref cc) A outer s H E) (Y := Y) (j := 7) (ok := kn) (td := fun E1 => (dCallE sp_merged (dCons (dTup dNil) (dCons (dTup dNil) (dCons (dSlot 2) dNil))) E1)) T.h__law_heard sc__law_heard (give_heardK XK.mT) XK.sub hr gu g.xt (LamX.lamS_by (sc := defScope st_law) (by decide +kernel)) (fun A outer s H E f c' Y' E1 hT' hr gu g => (de_callE (c_merged.on (hT'.trans hT)) hr gu g (da_cons (de_tup da_nil) (da_cons (de_tup da_nil) (da_cons (de_v 2) da_nil)))))) de_no)))))) de_int))
    (dss_one (ds_if (dt_w (dw_or (dt_not (dt_val (de_isE XK.known XK.sub_BadRow T.m_isinstance XK.m_BadRow (de_v 8)))) (dw_or1 (dt_cmp (od_ne hr) (de_b (cd_repr hr gu) T.m_repr (da_cons (de_excV XK.known (de_v 8)) da_nil)) (de_b (cd_repr hr gu) T.m_repr (da_cons (de_v 2) da_nil)) (nomark _))))) (dss_one (ds_ret de_bl)) dss_nil))))))))))))
    (dss_cons (ds_set (i := 3) sc_law.nd rfl (by first | exact Or.inl rfl | exact Or.inr rfl) (de_bT (cd_tup rfl) T.m_tuple (da_cons (de_lc true (own := [("at", 9)]) (g := (dgName 9)) (tt := dYes) (te := (dOp (rMulD true) (dC (.str "a")) (dSlot 9))) rfl sc_law.nd (di_range1 T.m_range de_int) (blkOk_by (own := [("at", 9)]) (N := N_law) (sc := defScope st_law) (by decide +kernel)) (by decide) (fun _ _ _ _ _ => (dg_name (i := 9) sc_law.nd rfl (by first | exact Or.inl rfl | exact Or.inr rfl))) (fun _ _ _ _ _ => dts_nil) (fun _ _ _ _ _ => (de_op (od_mul true) de_str (de_v 9)))) da_nil)))
    (dss_cons (ds_set (i := 4) sc_law.nd rfl (by first | exact Or.inl rfl | exact Or.inr rfl) (de_callE ((c_merged.mono (Nat.le_add_right _ 2)).on hT) hr gu g.xt.none (da_cons (de_v 3) (da_cons (de_op (od_add true) (de_op (od_add true) (de_slice true (de_v 3) do_none (do_some de_int)) (de_tup (da_cons de_str da_nil))) (de_slice true (de_v 3) (do_some de_int) do_none)) (da_cons (de_op (od_add true) (de_slice true (de_v 3) do_none (do_some de_int)) (de_tup (da_cons de_str da_nil))) da_nil)))))
    (dss_one (ds_ret (de_and (de_cmp (od_eq hr) (de_v 4) (de_tup (da_cons de_str (da_cons (de_op (od_add true) (de_op (od_add true) (de_op (od_add true) (de_slice true (de_v 3) do_none (do_some de_int)) (de_tup (da_cons de_str da_nil))) (de_slice true (de_v 3) (do_some de_int) (do_some de_int))) (de_tup (da_cons de_str da_nil))) da_nil))) (nomark _)) (de_one (de_cmp (od_eq hr) (de_b cd_len T.m_len (da_cons (de_callE ((c_common.mono (Nat.le_add_right _ 2)).on hT) hr gu g.xt.none (da_cons (de_v 3) (da_cons (de_revS true (de_v 3)) da_nil))) da_nil)) de_int (nomark _))))))))))) fun _ _ _ h => h _ _ _ _ _ _ _) (fun ds M Q E => read ds M Q)
end
end K90

set_option maxHeartbeats 4000000
/-! KB1: basics of the laws' readings, of no law's own: bounded data, pots, repr. -/
namespace KB
open PySem PySem.Spec DL
open L2 (atI ixN)
open PyProof.Rows hiding St signs
def sg (c : Nat) : Str := ⟨#[c]⟩
theorem sg_inj {a b : Nat} (h : sg a = sg b) : a = b := by
  have := congrArg (fun s : Str => s.cps.toList) h
  simpa [sg] using this
theorem sgs_of : ∀ {ys : List Str}, (∀ y ∈ ys, ∃ c, y = sg c) → ∃ ms : List Nat, ys = ms.map sg
  | [], _ => ⟨[], rfl⟩
  | y :: ys, h => by
    obtain ⟨c, rfl⟩ := h y List.mem_cons_self
    obtain ⟨ms, rfl⟩ := sgs_of fun z hz => h z (List.mem_cons_of_mem _ hz)
    exact ⟨c :: ms, rfl⟩
theorem app_list (a b : Str) : (a ++ b).cps.toList = a.cps.toList ++ b.cps.toList := by
  show (a.cps ++ b.cps).toList = _
  simp
theorem join_list : ∀ ss : List Str, (Txt.join (Str.ofString "") ss).cps.toList = (ss.map fun s : Str => s.cps.toList).flatten := by
  intro ss
  unfold Txt.join
  rw [StrLaws.glued_eq_join]
  induction ss with
  | nil => rfl
  | cons a r ih =>
    cases r with
    | nil => simp [Str.join]
    | cons b r =>
      have e : (Str.ofString "").cps.toList = [] := by decide
      rw [Str.join, app_list, app_list, ih, e, List.map_cons, List.flatten_cons, List.append_nil]
      · simp
      · simp
theorem flat_sg : ∀ ms : List Nat, ((ms.map sg).map fun s : Str => s.cps.toList).flatten = ms
  | [] => rfl
  | m :: ms => by
    rw [List.map_cons, List.map_cons, List.flatten_cons, flat_sg ms]
    rfl
theorem gl_sg (ms : List Nat) : Txt.join (Str.ofString "") (ms.map sg) = ⟨ms.toArray⟩ := by
  have h := join_list (ms.map sg)
  rw [flat_sg] at h
  generalize Txt.join (Str.ofString "") (ms.map sg) = z at h
  obtain ⟨⟨l⟩⟩ := z
  have : l = ms := h
  rw [this]
def tupB (v : DL.D) (lo hi : Int) : Bool := match v with
  | .tup xs => decide (lo ≤ xs.length) && decide ((xs.length : Int) ≤ hi)
  | _ => false
def plain : DL.D → Bool
  | .ref _ => false
  | .exc _ _ => false
  | .tupx _ => false
  | .lam _ _ => false
  | .str x => decide (x.cps.size ≤ 100000)
  | _ => true
theorem any_eqV (x : Str) : ∀ ws : List Str, (ws.any ((fun y => L2.eqV (vOf y) (vOf (D.str x))) ∘ D.str)) = decide (x ∈ ws)
  | [] => rfl
  | w :: ws => by
    rw [List.any_cons, any_eqV x ws]
    have : ((fun y => L2.eqV (vOf y) (vOf (D.str x))) ∘ D.str) w = decide (x = w) := by
      show (w == x) = _
      by_cases h : x = w
      · subst h; simp
      · simp [h, Ne.symm h]
    rw [this]
    by_cases h : x = w <;> simp [h]
theorem all_flat (ws : List Str) : (ws.map D.str).all flatD = true := by
  rw [List.all_map]; exact List.all_eq_true.mpr fun _ _ => rfl
/-- x in (a tuple of texts) -/
theorem in_texts {neg : Bool} {x : Str} {ws : List Str} {M : Mp} {Q : DK} (q : Q (.bl (if neg then !decide (x ∈ ws) else decide (x ∈ ws))) M) : DL.rInD neg (.str x) (.tup (ws.map D.str)) M Q := by
  refine ⟨_, rfl, rfl, all_flat ws, ?_⟩
  rw [List.any_map, any_eqV]
  exact q
theorem op_in_texts {neg : Bool} {x : Str} (ws : List Str) {e : DL.D} {t : DTE} {ρ : Rho} {M : Mp} {Q : DK} (he : e = .tup (ws.map D.str)) (ht : ∀ Q' : DK, Q' (.str x) M → t ρ M Q')
    (q : Q (.bl (if neg then !decide (x ∈ ws) else decide (x ∈ ws))) M) : dOp (DL.rInD neg) t (dC e) ρ M Q := by
  subst he
  exact ht _ (in_texts q)
abbrev SIG : Str := "\x0a ,-.0123456789:;=abcdefghijklmnopqrstuvwxyz"
def okSign (c : Nat) : Bool := decide (c ∈ SIG.cps.toList)
theorem small {n : Nat} (h : n ≤ 100000) : n ≤ sizeLine := by rw [sizeLine_eq]; omega
theorem ix0 {x : DL.D} {r : List DL.D} : atI (x :: r) 0 = some x := L2.atI_nat (j := 0) rfl
theorem ix1 {x y : DL.D} {r : List DL.D} : atI (x :: y :: r) 1 = some y := L2.atI_nat (j := 1) rfl
theorem cut1 {α : Type} (l : List α) : DL.cutD l (some 1) none = l.tail := by
  unfold DL.cutD
  rw [show (1 : Int) = ((1 : Nat) : Int) from rfl, HT.sIx_nat, HT.sIx_none]
  cases l with
  | nil => rfl
  | cons a r =>
    have e : min 1 (a :: r).length = 1 := by simp
    rw [e, List.drop_one, List.tail_cons, List.length_cons, Nat.add_sub_cancel]
    exact List.take_length
theorem cutS1 (x : Str) : (L2.cutS x (some 1) none).cps.toList = x.cps.toList.tail := by
  rw [← cut1 x.cps.toList]
  unfold L2.cutS DL.cutD
  rw [Array.length_toList]
  rfl
mutual
/-- plain data of a bounded size -/
def gd : DL.D → Bool
  | .non => true
  | .bl _ => true
  | .int i => decide (i.natAbs.log2 < 1900)
  | .str x => decide (x.cps.size ≤ 100000) && x.cps.toList.all fun c => decide (c < 128)
  | .tup xs => decide (xs.length ≤ 100000) && gdAll xs
  | .lst xs => decide (xs.length ≤ 100000) && gdAll xs
  | _ => false
def gdAll : List DL.D → Bool
  | [] => true
  | x :: xs => gd x && gdAll xs
end
theorem gdAll_iff : ∀ {xs : List DL.D}, gdAll xs = true ↔ ∀ x ∈ xs, gd x = true
  | [] => by simp [gdAll]
  | x :: xs => by simp [gdAll, gdAll_iff (xs := xs)]
theorem gd_tup {xs : List DL.D} : gd (.tup xs) = true ↔ xs.length ≤ 100000 ∧ ∀ x ∈ xs, gd x = true := by
  simp [gd, gdAll_iff]
theorem gd_lst {xs : List DL.D} : gd (.lst xs) = true ↔ xs.length ≤ 100000 ∧ ∀ x ∈ xs, gd x = true := by
  simp [gd, gdAll_iff]
theorem gd_str {x : Str} : gd (.str x) = true ↔ x.cps.size ≤ 100000 ∧ ∀ c ∈ x.cps.toList, c < 128 := by
  rw [gd, Bool.and_eq_true, decide_eq_true_eq, List.all_eq_true]
  simp only [decide_eq_true_eq]
theorem gd_plain {v : DL.D} (h : gd v = true) : plain v = true := by
  cases v <;> first | rfl | (simp [gd] at h; done) | skip
  simp only [plain]
  exact decide_eq_true (gd_str.mp h).1
mutual
def dep : DL.D → Nat
  | .tup xs => depAll xs + 1
  | .lst xs => depAll xs + 1
  | _ => 0
def depAll : List DL.D → Nat
  | [] => 0
  | x :: xs => max (dep x) (depAll xs)
end
theorem depAll_le {n : Nat} : ∀ {xs : List DL.D}, depAll xs ≤ n ↔ ∀ x ∈ xs, dep x ≤ n
  | [] => by simp [depAll]
  | x :: xs => by simp [depAll, Nat.max_le, depAll_le (xs := xs)]
mutual
theorem py_gd : ∀ (v : DL.D), gd v = true → ∃ p, v.py = some p ∧ p.showable = true ∧ p.canLay0 = true ∧ p.depth = dep v
  | .non, _ => ⟨.none, rfl, rfl, rfl, rfl⟩
  | .bl b, _ => ⟨.bool b, rfl, rfl, rfl, rfl⟩
  | .int i, h => by
    have h' : i.natAbs.log2 < 1900 := by simpa [gd] using h
    refine ⟨.int i, rfl, ?_, rfl, rfl⟩
    simp [PyData.showable]; omega
  | .str x, h => by
    refine ⟨.str x, rfl, rfl, ?_, rfl⟩
    have h' := (gd_str.mp h).2
    simp only [PyData.canLay0, PyData.strOk]
    rw [← Array.all_toList]
    exact List.all_eq_true.mpr fun c hc => by
      have := h' c hc
      simp; omega
  | .tup xs, h => by
    obtain ⟨ps, e, h1, h2, h3⟩ := pyAll_gd xs (gd_tup.mp h).2
    exact ⟨.tuple ps, by simp [D.py, e], by simpa [PyData.showable] using h1, by simpa [PyData.canLay0] using h2, by simp [PyData.depth, dep, h3]⟩
  | .lst xs, h => by
    obtain ⟨ps, e, h1, h2, h3⟩ := pyAll_gd xs (gd_lst.mp h).2
    exact ⟨.list ps, by simp [D.py, e], by simpa [PyData.showable] using h1, by simpa [PyData.canLay0] using h2, by simp [PyData.depth, dep, h3]⟩
  | .slst xs, h => by simp [gd] at h
  | .ref a, h => by simp [gd] at h
  | .dct a b, h => by simp [gd] at h
theorem pyAll_gd : ∀ (xs : List DL.D), (∀ x ∈ xs, gd x = true) → ∃ ps, pyAll xs = some ps ∧ PyData.showableAll ps = true ∧ PyData.canLayAll0 ps = true ∧ PyData.depthAll ps = depAll xs
  | [], _ => ⟨[], rfl, rfl, rfl, rfl⟩
  | x :: xs, h => by
    obtain ⟨p, e, h1, h2, h3⟩ := py_gd x (h x List.mem_cons_self)
    obtain ⟨ps, e', g1, g2, g3⟩ := pyAll_gd xs fun y hy => h y (List.mem_cons_of_mem _ hy)
    exact ⟨p :: ps, by simp [pyAll, e, e'], by simp [PyData.showableAll, h1, g1], by simp [PyData.canLayAll0, h2, g2], by simp [PyData.depthAll, depAll, h3, g3]⟩
end

theorem newTr {ds : List DL.D} {M : Mp} {Q : DK} (h : Q (.lst ds) M) : newL true ds M Q := h
theorem ne_nil {M : Mp} {a : Addr} {xs : List DL.D} {Q : DK} (h : M a = some (.lst xs)) (g : ∀ x ∈ xs, gd x = true) (d : depAll xs ≤ 63) (q : Q (.bl (!xs.isEmpty)) M) : rEqD2 true (.ref a) (.lst []) M Q := by
  obtain ⟨ps, e, h1, h2, h3⟩ := pyAll_gd xs g
  refine ⟨.list ps, .list [], ?_, rfl, ?_, by decide, ?_⟩
  · show (match mol (M a) with | some xs => _ | none => none) = _
    rw [h]
    show (match pyAll xs with | some ps => some (PyData.list ps) | none => none) = _
    rw [e]
  · unfold SeqAt.shaped
    simp only [PyData.canLay0, PyData.depth, h2, h3, Bool.true_and, decide_eq_true_eq]
    omega
  · have : PyData.eqv (.list ps) (.list []) = xs.isEmpty := by
      cases xs with
      | nil => simp [pyAll] at e; subst e; rfl
      | cons x xs =>
        simp only [pyAll] at e
        split at e
        · cases e; rfl
        · cases e
    rw [if_pos rfl, this]
    exact q
mutual
def wt : DL.D → Nat
  | .str x => x.cps.size
  | .tup xs => wtAll xs
  | .lst xs => wtAll xs
  | _ => 0
def wtAll : List DL.D → Nat
  | [] => 0
  | x :: xs => wt x + 1 + wtAll xs
end
mutual
theorem bulk_gd : ∀ (v : DL.D) (p : PyData), gd v = true → v.py = some p → p.bulk = wt v ∧ p.leavesShort 1921 = true
  | .non, _, _, h => by cases h; exact ⟨rfl, rfl⟩
  | .bl b, _, _, h => by cases h; exact ⟨rfl, rfl⟩
  | .int i, _, g, h => by
    cases h
    refine ⟨rfl, ?_⟩
    have g' : i.natAbs.log2 < 1900 := by simpa [gd] using g
    exact decide_eq_true (int_text_len_1921 (by omega))
  | .str x, _, g, h => by
    cases h
    refine ⟨rfl, ?_⟩
    exact List.all_eq_true.mpr fun c hc => decide_eq_true (by have := (gd_str.mp g).2 c hc; omega)
  | .tup xs, p, g, h => by
    simp only [D.py] at h
    split at h
    · rename_i ps e
      cases h
      obtain ⟨h1, h2⟩ := bulkAll_gd xs ps (gd_tup.mp g).2 e
      exact ⟨by simpa [PyData.bulk, wt] using h1, by simpa [PyData.leavesShort] using h2⟩
    · cases h
  | .lst xs, p, g, h => by
    simp only [D.py] at h
    split at h
    · rename_i ps e
      cases h
      obtain ⟨h1, h2⟩ := bulkAll_gd xs ps (gd_lst.mp g).2 e
      exact ⟨by simpa [PyData.bulk, wt] using h1, by simpa [PyData.leavesShort] using h2⟩
    · cases h
  | .slst xs, _, g, _ => by simp [gd] at g
  | .ref a, _, g, _ => by simp [gd] at g
  | .dct a b, _, g, _ => by simp [gd] at g
theorem bulkAll_gd : ∀ (xs : List DL.D) (ps : List PyData), (∀ x ∈ xs, gd x = true) → pyAll xs = some ps → PyData.bulkAll ps = wtAll xs ∧ PyData.leavesShortAll 1921 ps = true
  | [], _, _, h => by cases h; exact ⟨rfl, rfl⟩
  | x :: xs, ps, g, h => by
    simp only [pyAll] at h
    split at h
    · rename_i p ps' e e'
      cases h
      obtain ⟨h1, h2⟩ := bulk_gd x p (g x List.mem_cons_self) e
      obtain ⟨g1, g2⟩ := bulkAll_gd xs ps' (fun y hy => g y (List.mem_cons_of_mem _ hy)) e'
      exact ⟨by simp [PyData.bulkAll, wtAll, h1, g1], by simp [PyData.leavesShortAll, h2, g2]⟩
    · cases h
end
theorem pyM_gd {v : DL.D} {M : Mp} {p : PyData} (g : gd v = true) (h : v.py = some p) : pyM M v = some p := by
  cases v <;> first | exact h | (simp [gd] at g)
/-- repr of a value that is not too great -/
theorem repr_gd {v : DL.D} (g : gd v = true) (d : dep v ≤ 60) (wv : wt v ≤ 8000) : ∃ s : Str, ∀ (M : Mp) (Q : DK), Q (.str s) M → rReprD [v] M Q := by
  obtain ⟨p, e, h1, h2, h3⟩ := py_gd v g
  obtain ⟨b, l⟩ := bulk_gd v p g e
  refine ⟨p.shown, fun M Q q => ⟨v, p, rfl, pyM_gd g e, h1, by omega, ?_, q⟩⟩
  have := PyData.shown_le_bulk 1921 (by decide) p l
  rw [b] at this
  have m : (1921 + 2) * wt v ≤ (1921 + 2) * 8000 := Nat.mul_le_mul_left _ wv
  rw [sizeLine_eq]
  omega
theorem repr_op {v : DL.D} {s : Str} (hs : ∀ (M : Mp) (Q : DK), Q (.str s) M → rReprD [v] M Q) {t : DTE} {ρ : Rho} {M : Mp} {Q : DK} (ht : ∀ Q' : DK, Q' v M → t ρ M Q') (q : Q (.str s) M) : dCB rReprD (dCons t dNil) ρ M Q :=
  ht _ (hs M Q q)
theorem ix_ref {M : Mp} {a : Addr} {xs : List DL.D} {i : Int} {d : DL.D} {Q : DK} (h : M a = some (.lst xs)) (e : atI xs i = some d) (q : Q d M) : DL.rIxD (.ref a) (.int i) M Q :=
  ⟨xs, d, by show mol (M a) = _; rw [h]; rfl, e, q⟩
theorem mul_ok {fz : Bool} {i j : Int} {M : Mp} {Q : DK} (hi : i.natAbs < 2 ^ 64) (hj : j.natAbs < 2 ^ 64) (q : Q (.int (i * j)) M) : rMulD fz (.int i) (.int j) M Q := ⟨⟨64, 64, hi, hj, by decide⟩, q⟩
theorem at3_0 {x y z : DL.D} : atI [x, y, z] 0 = some x := L2.atI_nat (j := 0) rfl
theorem at3_1 {x y z : DL.D} : atI [x, y, z] 1 = some y := L2.atI_nat (j := 1) rfl
theorem at3_2 {x y z : DL.D} : atI [x, y, z] 2 = some z := L2.atI_nat (j := 2) rfl
/-- the pot at a: what it holds, drawn from at most c times -/
def Pot (M : Mp) (a : Addr) (c : Nat) : Prop := ∃ own mix cnt : Int, M a = some (.lst [.int own, .int mix, .int cnt]) ∧ 0 ≤ own ∧ 0 ≤ mix ∧ mix < 2305843009213693951 ∧ 0 ≤ cnt ∧ cnt ≤ c
/-- drawn from, nothing else touched -/
def Dr (M : Mp) (a : Addr) (M' : Mp) (c : Nat) : Prop := Pot M' a c ∧ ∀ b, b ≠ a → M' b = M b
theorem Dr.trans {M M1 M2 : Mp} {a : Addr} {c c' : Nat} (h : Dr M a M1 c) (h2 : Dr M1 a M2 c') : Dr M a M2 c' := ⟨h2.1, fun b hb => (h2.2 b hb).trans (h.2 b hb)⟩
theorem Dr.up {M M1 : Mp} {a : Addr} {c c' : Nat} (h : Dr M a M1 c) (hc : c ≤ c') : Dr M a M1 c' := by
  obtain ⟨⟨own, mix, cnt, e, h1, h2, h3, h4, h5⟩, f⟩ := h
  exact ⟨⟨own, mix, cnt, e, h1, h2, h3, h4, by omega⟩, f⟩
theorem Dr.refl {M : Mp} {a : Addr} {c : Nat} (h : Pot M a c) : Dr M a M c := ⟨h, fun _ _ => rfl⟩
theorem Pot.up {M : Mp} {a : Addr} {c c' : Nat} (h : Pot M a c) (hc : c ≤ c') : Pot M a c' := ((Dr.refl h).up hc).1
theorem set0 {x y z v : DL.D} {M : Mp} {a : Addr} (h : M a = some (.lst [x, y, z])) {Q : Mp → Prop} (q : Q (mu M a (.lst [v, y, z]))) : rSetD (.ref a) (.int 0) v M Q :=
  ⟨a, _, 0, 0, rfl, rfl, h, rfl, q⟩
theorem set2 {x y z v : DL.D} {M : Mp} {a : Addr} (h : M a = some (.lst [x, y, z])) {Q : Mp → Prop} (q : Q (mu M a (.lst [x, y, v]))) : rSetD (.ref a) (.int 2) v M Q :=
  ⟨a, _, 2, 2, rfl, rfl, h, rfl, q⟩
theorem primes {m : Int} (h0 : 0 ≤ m) (h5 : m < 5) : ∃ p : Int, atI [D.int 2147483647, .int 2147483629, .int 2147483587, .int 2147483579, .int 2147483563] m = some (.int p) ∧ 0 < p ∧ p < 2147483648 := by
  rcases (show m = 0 ∨ m = 1 ∨ m = 2 ∨ m = 3 ∨ m = 4 by omega) with rfl | rfl | rfl | rfl | rfl
  · exact ⟨_, rfl, by decide, by decide⟩
  · exact ⟨_, rfl, by decide, by decide⟩
  · exact ⟨_, rfl, by decide, by decide⟩
  · exact ⟨_, rfl, by decide, by decide⟩
  · exact ⟨_, rfl, by decide, by decide⟩
theorem sg_sum : ∀ ms : List Nat, ((ms.map sg).map (·.length)).sum = ms.length
  | [] => rfl
  | m :: ms => by
    rw [List.map_cons, List.map_cons, List.sum_cons, sg_sum ms, List.length_cons]
    show 1 + _ = _
    omega
theorem nat_sum (l : List Nat) : ((l.map fun n : Nat => (n : Int)).sum) = (l.sum : Nat) := by
  induction l with
  | nil => rfl
  | cons a l ih => simp [ih]
theorem at_in {α : Type} {xs : List α} {d : Int} (h0 : 0 ≤ d) (h1 : d < xs.length) : ∃ y ∈ xs, atI xs d = some y := by
  obtain ⟨n, rfl⟩ := Int.eq_ofNat_of_zero_le h0
  have hn : n < xs.length := by omega
  exact ⟨xs[n], List.getElem_mem hn, L2.atI_nat (List.getElem?_eq_getElem hn)⟩
theorem Pot.ne {M : Mp} {a b : Addr} {c : Nat} (p : Pot M a c) (h : M b = none) : b ≠ a := by
  obtain ⟨_, _, _, e, _⟩ := p
  intro q
  rw [q, e] at h
  cases h
theorem Pot.at {M M' : Mp} {a : Addr} {c : Nat} (p : Pot M a c) (h : M' a = M a) : Pot M' a c := by
  obtain ⟨own, mix, cnt, e, r⟩ := p
  exact ⟨own, mix, cnt, by rw [h]; exact e, r⟩
theorem sig_small : ∀ c ∈ SIG.cps.toList, c < 128 := by decide +kernel
theorem ok_small {c : Nat} (h : okSign c = true) : c < 128 := sig_small c (of_decide_eq_true h)
/-- a text of few signs -/
def Fs (n : Nat) (x : Str) : Prop := x.cps.size ≤ n ∧ ∀ c ∈ x.cps.toList, okSign c = true
theorem join_sg {ys : List Str} (h : ∀ y ∈ ys, ∃ c, okSign c = true ∧ y = sg c) : Fs ys.length (Txt.join (Str.ofString "") ys) ∧ (Txt.join (Str.ofString "") ys).cps.size = ys.length ∧ (ys.map (·.length)).sum = ys.length := by
  obtain ⟨ms, rfl⟩ := sgs_of (ys := ys) fun y hy => let ⟨c, _, e⟩ := h y hy; ⟨c, e⟩
  rw [gl_sg, sg_sum, List.length_map]
  refine ⟨⟨by simp, fun c hc => ?_⟩, by simp, rfl⟩
  obtain ⟨c', h1, e⟩ := h (sg c) (List.mem_map.mpr ⟨c, by simpa using hc, rfl⟩)
  rw [sg_inj e]; exact h1
def fairB (v : DL.D) : Bool := gd v && decide (dep v ≤ 5) && decide (wt v ≤ 1000)
theorem fairB_iff {v : DL.D} : fairB v = true ↔ gd v = true ∧ dep v ≤ 5 ∧ wt v ≤ 1000 := by
  unfold fairB
  simp only [Bool.and_eq_true, decide_eq_true_eq, and_assoc]
theorem wtAll_append (xs ys : List DL.D) : wtAll (xs ++ ys) = wtAll xs + wtAll ys := by
  induction xs with
  | nil => simp [wtAll]
  | cons x xs ih => simp only [List.cons_append, wtAll, ih]; omega
theorem wtAll_take (xs : List DL.D) (n : Nat) : wtAll (xs.take n) + wtAll (xs.drop n) = wtAll xs := by
  rw [← wtAll_append, List.take_append_drop]
theorem wtAll_len (xs : List DL.D) : xs.length ≤ wtAll xs := by
  induction xs with
  | nil => simp
  | cons x xs ih => simp only [List.length_cons, wtAll]; omega
theorem wtAll_rev (xs : List DL.D) : wtAll xs.reverse = wtAll xs := by
  induction xs with
  | nil => rfl
  | cons x xs ih => rw [List.reverse_cons, wtAll_append, ih]; simp only [wtAll]; omega
theorem wtAll_cut (xs : List DL.D) (lo hi : Option Int) : wtAll (DL.cutD xs lo hi) ≤ wtAll xs := by
  unfold DL.cutD
  have h1 := wtAll_take xs (HT.sIx xs.length 0 lo)
  have h2 := wtAll_take (xs.drop (HT.sIx xs.length 0 lo)) (HT.sIx xs.length xs.length hi - HT.sIx xs.length 0 lo)
  omega
theorem cut_mem {xs : List DL.D} {lo hi : Option Int} {y : DL.D} (h : y ∈ DL.cutD xs lo hi) : y ∈ xs := by
  unfold DL.cutD at h
  exact List.mem_of_mem_drop (List.mem_of_mem_take h)
theorem wt_mem {xs : List DL.D} {y : DL.D} (h : y ∈ xs) : wt y + 1 ≤ wtAll xs := by
  induction xs with
  | nil => cases h
  | cons x xs ih =>
    simp only [wtAll]
    rcases List.mem_cons.mp h with rfl | h
    · omega
    · have := ih h; omega
/-- a tuple of some items of a fair one -/
theorem some_items {xs ys : List DL.D} (g : gd (.tup xs) = true) (w : wtAll xs ≤ 3000) (m : ∀ y ∈ ys, y ∈ xs) (l : wtAll ys ≤ 2 * wtAll xs) : gd (.tup ys) = true ∧ dep (.tup ys) ≤ dep (.tup xs) + 1 ∧ wt (.tup ys) ≤ 2 * wt (.tup xs) + 10 := by
  refine ⟨gd_tup.mpr ⟨by have := wtAll_len ys; omega, fun y hy => (gd_tup.mp g).2 y (m y hy)⟩, ?_, ?_⟩
  · have : depAll ys ≤ depAll xs := depAll_le.mpr fun y hy => depAll_le.mp (Nat.le_refl _) y (m y hy)
    simp only [dep]
    omega
  · simp only [wt]
    omega
theorem cut_to {α : Type} (xs : List α) (k : Nat) : DL.cutD xs none (some (k : Int)) = xs.take k := by
  unfold DL.cutD
  rw [HT.sIx_none, HT.sIx_nat, List.drop_zero, Nat.sub_zero]
  by_cases h : k ≤ xs.length
  · rw [Nat.min_eq_left h]
  · rw [Nat.min_eq_right (by omega), List.take_length, List.take_of_length_le (by omega)]
theorem cut_from {α : Type} (xs : List α) (k : Nat) : DL.cutD xs (some (k : Int)) none = xs.drop k := by
  unfold DL.cutD
  rw [HT.sIx_none, HT.sIx_nat]
  by_cases h : k ≤ xs.length
  · rw [Nat.min_eq_left h]
    exact List.take_of_length_le (by rw [List.length_drop]; omega)
  · rw [Nat.min_eq_right (by omega), Nat.sub_self, List.take_zero, List.drop_of_length_le (by omega)]
theorem ne_unit {M : Mp} {xs : List DL.D} {Q : DK} (g : gd (.tup xs) = true) (d : dep (.tup xs) ≤ 60) (q : Q (.bl (!xs.isEmpty)) M) : rEqD2 true (.tup xs) (.tup []) M Q := by
  obtain ⟨ps, e, h1, h2, h3⟩ := pyAll_gd xs (gd_tup.mp g).2
  refine ⟨.tuple ps, .tuple [], ?_, rfl, ?_, by decide, ?_⟩
  · show (match pyAll xs with | some ps => some (PyData.tuple ps) | none => none) = _
    rw [e]
  · unfold SeqAt.shaped
    simp only [PyData.canLay0, PyData.depth, h2, h3, Bool.true_and, decide_eq_true_eq]
    simp only [dep] at d
    omega
  · have : PyData.eqv (.tuple ps) (.tuple []) = xs.isEmpty := by
      cases xs with
      | nil => simp [pyAll] at e; subst e; rfl
      | cons x xs =>
        simp only [pyAll] at e
        split at e
        · cases e; rfl
        · cases e
    rw [if_pos rfl, this]
    exact q
theorem up_small {x : Str} (h : ∀ c ∈ x.cps.toList, c < 128) : (Txt.upper x).cps.size = x.cps.size ∧ ∀ c ∈ (Txt.upper x).cps.toList, c < 128 := by
  have e : x = SX.S x.cps.toList := by cases x; rfl
  have h2 : x.cps.toList.all (· < 128) = true := List.all_eq_true.mpr fun c hc => decide_eq_true (h c hc)
  rw [e, SX.upper_S h2]
  refine ⟨by simp [SX.S], fun c hc => ?_⟩
  have hc' : c ∈ x.cps.toList.map PyProof.Rows.up1 := hc
  obtain ⟨d, hd, rfl⟩ := List.mem_map.mp hc'
  have := h d hd
  unfold PyProof.Rows.up1
  split <;> omega
theorem gd_app {x y : Str} (gx : gd (.str x) = true) (gy : gd (.str y) = true) (l : x.cps.size + y.cps.size ≤ 100000) : gd (.str (x ++ y)) = true ∧ (x ++ y).cps.size = x.cps.size + y.cps.size := by
  have e : (x ++ y).cps.size = x.cps.size + y.cps.size := by
    rw [← Array.length_toList, app_list, List.length_append, Array.length_toList, Array.length_toList]
  refine ⟨gd_str.mpr ⟨by omega, fun c hc => ?_⟩, e⟩
  rw [app_list] at hc
  exact (List.mem_append.mp hc).elim ((gd_str.mp gx).2 c) ((gd_str.mp gy).2 c)
theorem gd_cut {x : Str} (gx : gd (.str x) = true) (lo hi : Option Int) : gd (.str (L2.cutS x lo hi)) = true ∧ (L2.cutS x lo hi).cps.size ≤ x.cps.size := by
  have l := L2.cutS_length x lo hi
  have l2 : (L2.cutS x lo hi).cps.size ≤ x.cps.size := l
  refine ⟨gd_str.mpr ⟨Nat.le_trans l2 (gd_str.mp gx).1, fun c hc => (gd_str.mp gx).2 c ?_⟩, l2⟩
  unfold L2.cutS at hc
  exact List.mem_of_mem_drop (List.mem_of_mem_take hc)
theorem add_tups {fz : Bool} {xs ys : List DL.D} {M : Mp} {Q : DK} (l : xs.length + ys.length ≤ 100000) (q : Q (.tup (xs ++ ys)) M) : rAddD fz (.tup xs) (.tup ys) M Q := ⟨small l, q⟩
theorem add_strs {fz : Bool} {x y : Str} {M : Mp} {Q : DK} (l : x.cps.size + y.cps.size ≤ 100000) (q : Q (.str (x ++ y)) M) : rAddD fz (.str x) (.str y) M Q := ⟨small l, q⟩
/-- plain, of a depth, of a weight -/
structure Sm (d w : Nat) (v : DL.D) : Prop where
  g : gd v = true
  d : dep v ≤ d
  w : wt v ≤ w
theorem Sm.up {d w d' w' : Nat} {v : DL.D} (h : Sm d w v) (hd : d ≤ d') (hw : w ≤ w') : Sm d' w' v := ⟨h.g, Nat.le_trans h.d hd, Nat.le_trans h.w hw⟩
theorem sm_all {d : Nat} {xs : List DL.D} (h : ∀ x ∈ xs, ∃ w, Sm d w x) (l : xs.length ≤ 100000) : Sm (d + 1) (wtAll xs) (.tup xs) := by
  refine ⟨gd_tup.mpr ⟨l, fun x hx => let ⟨w, s⟩ := h x hx; s.g⟩, ?_, by simp only [wt]; exact Nat.le_refl _⟩
  have : depAll xs ≤ d := depAll_le.mpr fun x hx => let ⟨w, s⟩ := h x hx; s.d
  simp only [dep]
  omega
theorem sm_lst {d : Nat} {xs : List DL.D} (h : ∀ x ∈ xs, ∃ w, Sm d w x) (l : xs.length ≤ 100000) : Sm (d + 1) (wtAll xs) (.lst xs) := by
  obtain ⟨g, d, w⟩ := sm_all h l
  exact ⟨gd_lst.mpr (gd_tup.mp g), d, w⟩
theorem sm_str {x : Str} {w : Nat} (h : x.cps.size ≤ w) (hw : w ≤ 100000) (c : ∀ c ∈ x.cps.toList, c < 128) : Sm 0 w (.str x) :=
  ⟨gd_str.mpr ⟨by omega, c⟩, by simp [dep], by simp only [wt]; exact h⟩
theorem Fs.gd {n : Nat} {x : Str} (h : Fs n x) (hn : n ≤ 100000) : gd (.str x) = true := gd_str.mpr ⟨by have := h.1; omega, fun c hc => ok_small (h.2 c hc)⟩
/-- many Trues -/
theorem trues : ∀ {xs : List DL.D}, (∀ d ∈ xs, d = .bl true) → ∃ bs : List Bool, some xs = some (bs.map D.bl) ∧ bs.all id = true
  | [], _ => ⟨[], rfl, rfl⟩
  | x :: xs, h => by
    obtain ⟨bs, e1, e2⟩ := trues (xs := xs) fun d hd => h d (List.mem_cons_of_mem _ hd)
    refine ⟨true :: bs, ?_, by simpa using e2⟩
    rw [List.map_cons, ← Option.some.inj e1, h x List.mem_cons_self]
def PW : Int := ((10 : Int) ^ (60 : Int).toNat) ^ (5 : Int).toNat
theorem PW_pos : 0 < PW := by decide +kernel
theorem PW_lt : PW < 2 ^ 1000 := by decide +kernel
theorem bits60 : 0 ≤ (5 : Int) ∧ (Builtin.Int.intBits ((10 : Int) ^ (60 : Int).toNat) : Int) * 5 ≤ 2 ^ 27 := by decide +kernel
end KB

set_option maxHeartbeats 4000000
/-! K90p: rows of pairs of places, the longest, the first of them; with no program in sight. -/
namespace K90
open PySem

abbrev Row := List Str
abbrev Ch := List (Nat × Nat)
def isCh (a b : Row) : Nat → Nat → Ch → Prop
  | _, _, [] => True
  | i, j, x :: r => i ≤ x.1 ∧ j ≤ x.2 ∧ x.1 < a.length ∧ x.2 < b.length ∧ a[x.1]? = b[x.2]? ∧ isCh a b (x.1 + 1) (x.2 + 1) r
def lcs : Row → Row → Nat
  | [], _ => 0
  | _ :: _, [] => 0
  | x :: xs, y :: ys => if x = y then max (max (lcs xs (y :: ys)) (lcs (x :: xs) ys)) (1 + lcs xs ys) else max (lcs xs (y :: ys)) (lcs (x :: xs) ys)
termination_by a b => a.length + b.length
def lc (a b : Row) (i j : Nat) : Nat := lcs (a.drop i) (b.drop j)
section
variable {a b : Row}
theorem lc_end1 {i j : Nat} (h : a.length ≤ i) : lc a b i j = 0 := by
  unfold lc
  rw [List.drop_eq_nil_of_le h]
  simp [lcs]
theorem lc_end2 {i j : Nat} (h : b.length ≤ j) : lc a b i j = 0 := by
  unfold lc
  rw [List.drop_eq_nil_of_le h]
  cases a.drop i <;> simp [lcs]
theorem lc_step {i j : Nat} (hi : i < a.length) (hj : j < b.length) : lc a b i j = if a[i]? = b[j]? then max (max (lc a b (i + 1) j) (lc a b i (j + 1))) (1 + lc a b (i + 1) (j + 1)) else max (lc a b (i + 1) j) (lc a b i (j + 1)) := by
  unfold lc
  rw [List.drop_eq_getElem_cons hi, List.drop_eq_getElem_cons hj, lcs, List.getElem?_eq_getElem hi, List.getElem?_eq_getElem hj]
  simp only [Option.some.injEq]
theorem lc_down1 (i j : Nat) : lc a b (i + 1) j ≤ lc a b i j := by
  by_cases hi : i < a.length
  · by_cases hj : j < b.length
    · rw [lc_step hi hj]
      split <;> omega
    · rw [lc_end2 (by omega)]; omega
  · rw [lc_end1 (by omega)]; omega
theorem lc_down2 (i j : Nat) : lc a b i (j + 1) ≤ lc a b i j := by
  by_cases hi : i < a.length
  · by_cases hj : j < b.length
    · rw [lc_step hi hj]
      split <;> omega
    · rw [lc_end2 (by omega)]; omega
  · rw [lc_end1 (by omega)]; omega
theorem lc_mono {i j : Nat} : ∀ (k l : Nat), lc a b (i + k) (j + l) ≤ lc a b i j
  | 0, 0 => Nat.le_refl _
  | k + 1, l => Nat.le_trans (lc_down1 (i + k) (j + l)) (lc_mono k l)
  | 0, l + 1 => Nat.le_trans (lc_down2 (i + 0) (j + l)) (lc_mono 0 l)
theorem lc_pair {i j p q : Nat} (h1 : i ≤ p) (h2 : j ≤ q) (hp : p < a.length) (hq : q < b.length) (e : a[p]? = b[q]?) : 1 + lc a b (p + 1) (q + 1) ≤ lc a b i j := by
  have m := lc_mono (a := a) (b := b) (i := i) (j := j) (p - i) (q - j)
  have e1 : i + (p - i) = p := by omega
  have e2 : j + (q - j) = q := by omega
  rw [e1, e2] at m
  refine Nat.le_trans ?_ m
  rw [lc_step hp hq, if_pos e]
  omega
/-- no chain is longer -/
theorem ch_le : ∀ {c : Ch} {i j : Nat}, isCh a b i j c → c.length ≤ lc a b i j
  | [], _, _, _ => Nat.zero_le _
  | x :: r, i, j, ⟨h1, h2, h3, h4, h5, h6⟩ => by
    have := ch_le h6
    have := lc_pair h1 h2 h3 h4 h5
    simp only [List.length_cons]
    omega
/-- where there is one, a pair that begins a longest chain -/
theorem lc_find : ∀ (n i j : Nat), (a.length - i) + (b.length - j) ≤ n → 0 < lc a b i j → ∃ p q, i ≤ p ∧ j ≤ q ∧ p < a.length ∧ q < b.length ∧ a[p]? = b[q]? ∧ lc a b (p + 1) (q + 1) + 1 = lc a b i j
  | 0, i, j, hn, h => by
    rw [lc_end1 (by omega)] at h
    omega
  | n + 1, i, j, hn, h => by
    by_cases hi : i < a.length
    case neg => rw [lc_end1 (by omega)] at h; omega
    by_cases hj : j < b.length
    case neg => rw [lc_end2 (by omega)] at h; omega
    have st := lc_step (a := a) (b := b) hi hj
    by_cases c1 : lc a b (i + 1) j = lc a b i j
    · obtain ⟨p, q, h1, h2, h3, h4, h5, h6⟩ := lc_find n (i + 1) j (by omega) (by omega)
      exact ⟨p, q, by omega, h2, h3, h4, h5, by omega⟩
    by_cases c2 : lc a b i (j + 1) = lc a b i j
    · obtain ⟨p, q, h1, h2, h3, h4, h5, h6⟩ := lc_find n i (j + 1) (by omega) (by omega)
      exact ⟨p, q, h1, by omega, h3, h4, h5, by omega⟩
    by_cases e : a[i]? = b[j]?
    · rw [if_pos e] at st
      exact ⟨i, j, Nat.le_refl _, Nat.le_refl _, hi, hj, e, by omega⟩
    · rw [if_neg e] at st
      omega
/-! ### the first pair -/
def fit (a b : Row) (l p q : Nat) : Bool := decide (a[p]? = b[q]?) && decide (lc a b (p + 1) (q + 1) + 1 = l)
def rowF (a b : Row) (l j p : Nat) : Ch := ((List.range' j (b.length - j)).filter (fit a b l p)).map fun q => (p, q)
def firstF (a b : Row) (l j : Nat) : List Nat → Ch
  | [] => []
  | p :: ps => if rowF a b l j p = [] then firstF a b l j ps else rowF a b l j p
def pair0 (a b : Row) (l i j : Nat) : Nat × Nat := (firstF a b l j (List.range' i (a.length - i))).headD (0, 0)
def ltP (x y : Nat × Nat) : Prop := x.1 < y.1 ∨ (x.1 = y.1 ∧ x.2 < y.2)
theorem filter_head {α : Type} {f : α → Bool} : ∀ {l : List α} {x : α} {r : List α}, l.filter f = x :: r → ∃ u v, l = u ++ x :: v ∧ (∀ y ∈ u, f y = false) ∧ f x = true
  | [], _, _, h => by cases h
  | y :: l, x, r, h => by
    rw [List.filter_cons] at h
    split at h
    · rename_i hy
      cases h
      exact ⟨[], l, rfl, (fun _ h => nomatch h), hy⟩
    · rename_i hy
      obtain ⟨u, v, e, h1, h2⟩ := filter_head h
      refine ⟨y :: u, v, by rw [e]; rfl, fun z hz => ?_, h2⟩
      rcases List.mem_cons.mp hz with rfl | hz
      · simpa using hy
      · exact h1 z hz
theorem range_split {j n x : Nat} {u v : List Nat} (h : List.range' j n = u ++ x :: v) : j ≤ x ∧ x < j + n ∧ ∀ y, j ≤ y → y < x → y ∈ u := by
  have hx : x ∈ List.range' j n := by rw [h]; simp
  rw [List.mem_range'_1] at hx
  refine ⟨hx.1, hx.2, fun y h1 h2 => ?_⟩
  have hy : y ∈ List.range' j n := List.mem_range'_1.mpr ⟨h1, by omega⟩
  rw [h] at hy
  rcases List.mem_append.mp hy with z | z
  · exact z
  · rcases List.mem_cons.mp z with rfl | z
    · omega
    · have so : (List.range' j n).Pairwise (· < ·) := List.pairwise_lt_range'
      rw [h, List.pairwise_append] at so
      have := (List.pairwise_cons.mp so.2.1).1 y z
      omega
theorem row_none {l j p q : Nat} (h : rowF a b l j p = []) (hq : j ≤ q) (hb : q < b.length) : fit a b l p q = false := by
  unfold rowF at h
  rw [List.map_eq_nil_iff, List.filter_eq_nil_iff] at h
  have := h q (List.mem_range'_1.mpr ⟨hq, by omega⟩)
  simpa using this
/-- the first row of pairs: its first is the least that fits -/
theorem first_spec {l j : Nat} : ∀ (n i : Nat), i + n = a.length → (∃ p q, i ≤ p ∧ j ≤ q ∧ p < a.length ∧ q < b.length ∧ fit a b l p q = true) →
    ∃ p q r, firstF a b l j (List.range' i n) = (p, q) :: r ∧ i ≤ p ∧ j ≤ q ∧ p < a.length ∧ q < b.length ∧ fit a b l p q = true ∧ ∀ p' q', i ≤ p' → j ≤ q' → p' < a.length → q' < b.length → fit a b l p' q' = true → (p, q) = (p', q') ∨ ltP (p, q) (p', q')
  | 0, i, hn, ⟨p, q, h1, h2, h3, _⟩ => by omega
  | n + 1, i, hn, ⟨p, q, h1, h2, h3, h4, h5⟩ => by
    rw [List.range'_succ, firstF]
    by_cases e : rowF a b l j i = []
    · rw [if_pos e]
      have hip : i ≠ p := by
        rintro rfl
        rw [row_none e h2 h4] at h5
        cases h5
      obtain ⟨p0, q0, r, f1, f2, f3, f4, f5, f6, f7⟩ := first_spec n (i + 1) (by omega) ⟨p, q, by omega, h2, h3, h4, h5⟩
      refine ⟨p0, q0, r, f1, by omega, f3, f4, f5, f6, fun p' q' g1 g2 g3 g4 g5 => ?_⟩
      have : i ≠ p' := by
        rintro rfl
        rw [row_none e g2 g4] at g5
        cases g5
      exact f7 p' q' (by omega) g2 g3 g4 g5
    · rw [if_neg e]
      unfold rowF at e ⊢
      cases hf : (List.range' j (b.length - j)).filter (fit a b l i) with
      | nil => rw [hf] at e; exact absurd rfl e
      | cons x r =>
        obtain ⟨u, v, e1, e2, e3⟩ := filter_head hf
        obtain ⟨r1, r2, r3⟩ := range_split e1
        refine ⟨i, x, r.map fun q => (i, q), rfl, Nat.le_refl _, r1, by omega, by omega, e3, fun p' q' g1 g2 g3 g4 g5 => ?_⟩
        by_cases hp : i = p'
        · subst hp
          by_cases hq : x = q'
          · exact .inl (by rw [hq])
          · refine .inr (.inr ⟨rfl, ?_⟩)
            show x < q'
            by_cases hlt : q' < x
            · have := e2 q' (r3 q' g2 hlt)
              rw [g5] at this
              cases this
            · omega
        · exact .inr (.inl (by show i < p'; omega))
theorem fit_iff {l p q : Nat} : fit a b l p q = true ↔ a[p]? = b[q]? ∧ lc a b (p + 1) (q + 1) + 1 = l := by
  unfold fit
  simp
/-- where something is in common: the pair that is taken -/
theorem pair_spec {i j l : Nat} (hl : lc a b i j = l + 1) : ∃ p q r, firstF a b (l + 1) j (List.range' i (a.length - i)) = (p, q) :: r ∧ i ≤ p ∧ j ≤ q ∧ p < a.length ∧ q < b.length ∧ a[p]? = b[q]? ∧ lc a b (p + 1) (q + 1) = l ∧
    ∀ p' q', i ≤ p' → j ≤ q' → p' < a.length → q' < b.length → a[p']? = b[q']? → lc a b (p' + 1) (q' + 1) = l → (p, q) = (p', q') ∨ ltP (p, q) (p', q') := by
  obtain ⟨p, q, h1, h2, h3, h4, h5, h6⟩ := lc_find (a := a) (b := b) _ i j (Nat.le_refl _) (by omega)
  obtain ⟨p0, q0, r, f1, f2, f3, f4, f5, f6, f7⟩ := first_spec (a := a) (b := b) (l := l + 1) (j := j) (a.length - i) i (by omega) ⟨p, q, h1, h2, h3, h4, fit_iff.mpr ⟨h5, by omega⟩⟩
  obtain ⟨g1, g2⟩ := fit_iff.mp f6
  exact ⟨p0, q0, r, f1, f2, f3, f4, f5, g1, by omega, fun p' q' k1 k2 k3 k4 k5 k6 => f7 p' q' k1 k2 k3 k4 (fit_iff.mpr ⟨k5, by omega⟩)⟩
/-- the chain that is taken -/
def gr (a b : Row) : Nat → Nat → Nat → Ch
  | 0, _, _ => []
  | l + 1, i, j => pair0 a b (l + 1) i j :: gr a b l ((pair0 a b (l + 1) i j).1 + 1) ((pair0 a b (l + 1) i j).2 + 1)
def ltC : Ch → Ch → Prop
  | x :: xs, y :: ys => ltP x y ∨ (x = y ∧ ltC xs ys)
  | _, _ => False
theorem gr_ch : ∀ {l i j : Nat}, lc a b i j = l → isCh a b i j (gr a b l i j) ∧ (gr a b l i j).length = l
  | 0, _, _, _ => ⟨trivial, rfl⟩
  | l + 1, i, j, h => by
    obtain ⟨p, q, r, f1, f2, f3, f4, f5, f6, f7, f8⟩ := pair_spec h
    have e : pair0 a b (l + 1) i j = (p, q) := by unfold pair0; rw [f1]; rfl
    obtain ⟨c1, c2⟩ := gr_ch f7
    unfold gr
    rw [e]
    exact ⟨⟨f2, f3, f4, f5, f6, c1⟩, by simp [c2]⟩
/-- it is the first of the longest -/
theorem gr_least : ∀ {l i j : Nat} {c : Ch}, lc a b i j = l → isCh a b i j c → c.length = l → gr a b l i j = c ∨ ltC (gr a b l i j) c
  | 0, _, _, c, _, _, hl => .inl (by rw [List.length_eq_zero_iff.mp hl]; rfl)
  | l + 1, i, j, [], _, _, hl => by simp at hl
  | l + 1, i, j, x :: c, h, ⟨h1, h2, h3, h4, h5, h6⟩, hl => by
    obtain ⟨p, q, r, f1, f2, f3, f4, f5, f6, f7, f8⟩ := pair_spec h
    have e : pair0 a b (l + 1) i j = (p, q) := by unfold pair0; rw [f1]; rfl
    have n1 := ch_le h6
    have n2 := lc_pair h1 h2 h3 h4 h5
    simp only [List.length_cons] at hl
    have hx : lc a b (x.1 + 1) (x.2 + 1) = l := by omega
    unfold gr
    rw [e]
    rcases f8 x.1 x.2 h1 h2 h3 h4 h5 hx with z | z
    · have zx : (p, q) = x := z
      subst zx
      rcases gr_least f7 h6 (by omega) with w | w
      · exact .inl (by rw [w])
      · exact .inr (.inr ⟨rfl, w⟩)
    · exact .inr (.inl z)
end
end K90

set_option maxHeartbeats 4000000
/-! K90b: is_type and what it calls (turned from K01p, K01b). -/
namespace K90
open PySem PySem.Spec DL KB
open L2 (atI ixN)
open PyProof.Rows hiding St signs
def sp_tuple : DS1 := fun ds M Q => ∃ v lo hi, ds = [v, .int lo, .int hi] ∧ KB.plain v = true ∧ Q (.bl (tupB v lo hi)) M
theorem rd_tuple : ∀ ds M Q, sp_tuple ds M Q → ds.length = 3 ∧ r_is_tuple { nx := fun _ M' => Q .non M', rt := Q } (dstart N_is_tuple ds) M := by
  rintro _ M Q ⟨v, lo, hi, rfl, pv, q⟩
  refine ⟨rfl, ?_⟩
  cases v
  case tup xs =>
    by_cases h : lo ≤ (xs.length : Int) <;> simp [tupB, h] at q <;> simp [dstart, dRet, dAndV, dOrV, dNotV, dIsi, dSlot, tyD, isiB, dChain, rInt, dCB, DL.rLen, dCons, dNil, seqOf, lstOf, lstIn, mol, dSeq, dIfS, dAsg, dgName, dgTup, dgCons, dgNil, dPar, dC, dB, dNotT, dAndT, dOrT, dOp, rEqD2, DL.rLtD, DL.rInD, DL.rIxD, dCall1, dIf, dTup, dLst, dNext, dDrop, r_is_tuple] <;> simp [h, q]
  all_goals first | (simp [KB.plain] at pv; done) | (simp [tupB] at q; simp [dstart, dRet, dAndV, dOrV, dNotV, dIsi, dSlot, tyD, isiB, dChain, rInt, dCB, DL.rLen, dCons, dNil, seqOf, lstOf, lstIn, mol, dSeq, dIfS, dAsg, dgName, dgTup, dgCons, dgNil, dPar, dC, dB, dNotT, dAndT, dOrT, dOp, rEqD2, DL.rLtD, DL.rInD, DL.rIxD, dCall1, dIf, dTup, dLst, dNext, dDrop, r_is_tuple]; exact q)
/-- is_word(value, words): a flat value, texts -/
def textB (v : DL.D) (most : Int) : Bool := match v with
  | .str x => decide ((x.length : Int) ≤ most) && x.cps.toList.all okSign
  | _ => false
def sp_text : DS1 := fun ds M Q => ∃ v most, ds = [v, .int most] ∧ KB.plain v = true ∧ Q (.bl (textB v most)) M
theorem rd_text : ∀ ds M Q, sp_text ds M Q → ds.length = 2 ∧ r_is_text { nx := fun _ M' => Q .non M', rt := Q } (dstart N_is_text ds) M := by
  rintro _ M Q ⟨v, most, rfl, pv, q⟩
  refine ⟨rfl, ?_⟩
  cases v
  case str x =>
    have sz : x.cps.size ≤ 100000 := by simpa [KB.plain] using pv
    refine ⟨_, rfl, _, rfl, true, rfl, ?_⟩
    refine ⟨_, rfl, small sz, _, rfl, _, _, rfl, rfl, trivial, _, rfl, ?_⟩
    by_cases h : (x.length : Int) ≤ most
    · have e : textB (.str x) most = x.cps.toList.all okSign := by simp [textB, h]
      rw [e] at q
      rw [decide_eq_true h]
      refine ⟨_, rfl, ?_⟩
      refine lc_map (fun d => match d with | .str s => .bl (s.cps.toList.all okSign) | _ => .non) (by exact trivial) _ [] ?_ (by unfold DL.signs; simpa using small sz) ?_
      · intro d hd K1 K2 hk
        obtain ⟨c, hc, rfl⟩ := List.mem_map.mp hd
        refine ⟨_, rfl, c, rfl, ?_⟩
        simpa [okSign] using hk
      · refine ⟨_, x.cps.toList.map okSign, rfl, ?_, ?_⟩
        · show some _ = some _
          unfold DL.signs
          rw [List.nil_append, List.map_map, List.map_map]
          refine congrArg some (List.map_congr_left fun c _ => ?_)
          simp
        · rw [List.all_map]; exact q
    · have e : textB (.str x) most = false := by simp [textB, h]
      rw [e] at q
      rw [decide_eq_false h]
      exact q
  all_goals first | (simp [KB.plain] at pv; done) | (simp [textB] at q; simp [dstart, dRet, dAndV, dOrV, dNotV, dIsi, dSlot, tyD, isiB, dChain, rInt, dCB, DL.rLen, dCons, dNil, seqOf, lstOf, lstIn, mol, dSeq, dIfS, dAsg, dgName, dgTup, dgCons, dgNil, dPar, dC, dB, dNotT, dAndT, dOrT, dOp, rEqD2, DL.rLtD, DL.rInD, DL.rIxD, dCall1, dIf, dTup, dLst, dNext, dDrop, r_is_text]; exact q)

end K90

set_option maxHeartbeats 4000000
/-! K90d: the longest rows of pairs: longest_from, fits, pairs_of. -/
namespace K90
open PySem PySem.Spec DL KB
open L2 (atI ixN)
open PyProof.Rows hiding St signs
/-- a for loop along what was passed -/
theorem for_pre {α : Type} {g : DTG} {tb : DTS} {D : DEnds} {G : Mp → Prop} (f : α → DL.D) (all : List α) (I : List α → Rho → Mp → Prop) (hG : ∀ p ρ M, I p ρ M → G M)
    (step : ∀ (pre : List α) (z : α) (suf : List α), pre ++ z :: suf = all → ∀ ρ M, I pre ρ M → ∀ N : Rho → Mp → Prop, (∀ ρ' M', I (pre ++ [z]) ρ' M' → N ρ' M') → g (f z) ρ M fun ρ2 M2 => tb { D with nx := N, ct := N, bk := D.nx } ρ2 M2)
    (fin : ∀ ρ' M', I all ρ' M' → D.nx ρ' M') : ∀ (zs pre : List α) (ρ : Rho) (M : Mp), pre ++ zs = all → I pre ρ M → forW g tb D G (zs.map f) ρ M
  | [], pre, ρ, M, e, i => by
    rw [List.append_nil] at e
    subst e
    exact ⟨hG _ _ _ i, fin ρ M i⟩
  | z :: zs, pre, ρ, M, e, i => by
    refine ⟨hG _ _ _ i, step pre z zs e ρ M i _ fun ρ' M' i' => ?_⟩
    exact for_pre f all I hG step fin zs (pre ++ [z]) ρ' M' (by rw [← e]; simp) i'
/-- a for loop by counting -/
theorem for_cnt {g : DTG} {tb : DTS} {D : DEnds} {G : Mp → Prop} (f : Nat → DL.D) (n : Nat) (I : Nat → Rho → Mp → Prop) (hG : ∀ p ρ M, I p ρ M → G M)
    (step : ∀ k, k < n → ∀ ρ M, I k ρ M → ∀ N : Rho → Mp → Prop, (∀ ρ' M', I (k + 1) ρ' M' → N ρ' M') → g (f k) ρ M fun ρ2 M2 => tb { D with nx := N, ct := N, bk := D.nx } ρ2 M2)
    (fin : ∀ ρ' M', I n ρ' M' → D.nx ρ' M') {ρ : Rho} {M : Mp} (i : I 0 ρ M) : forW g tb D G ((List.range n).map f) ρ M := by
  refine for_pre f (List.range n) (fun pre => I pre.length) (fun p => hG _) ?_ (fun ρ' M' h => fin ρ' M' (by simpa using h)) _ [] ρ M rfl i
  intro pre z suf e ρ M i N k
  have hz : z = pre.length ∧ z < n := by
    have h1 : (List.range n)[pre.length]? = some z := by rw [← e]; simp
    have h2 : pre.length < n := by
      have := congrArg List.length e
      simp at this
      omega
    rw [List.getElem?_range h2] at h1
    simp at h1
    omega
  obtain ⟨rfl, hz⟩ := hz
  exact step _ hz ρ M i N fun ρ' M' j => k ρ' M' (by simpa using j)
theorem SubM.none {M M' : Mp} (h : SubM M M') {a : Addr} (e : M' a = Option.none) : M a = Option.none := by
  cases q : M a with
  | none => rfl
  | some m => rw [h a m q] at e; cases e
/-- a comprehension along what was made -/
theorem lc_acc {g : DTG} {tt : DTT} {te : DTE} {G : Mp → Prop} {ρ : Rho} {k : List DL.D → Mp → Prop} (I : List DL.D → Mp → Prop) (hG : ∀ ds M, I ds M → G M) : ∀ (xs acc : List DL.D) (M : Mp), I acc M →
    (∀ x ∈ xs, ∀ ds M, I ds M → ∀ (K1 : DK) (K2 : Mp → Prop), (∀ d M', I (ds ++ [d]) M' → K1 d M') → g x ρ M fun ρ2 M2 => tt ρ2 M2 fun b M3 => if b = true then te ρ2 M3 K1 else K2 M3) →
    acc.length + xs.length ≤ sizeLine → (∀ ds M', ds.length = acc.length + xs.length → I ds M' → k ds M') → lcW g tt te G ρ k xs acc M
  | [], acc, M, i, _, _, h => ⟨hG _ _ i, h acc M (by simp) i⟩
  | x :: xs, acc, M, i, step, hz, h => by
    refine ⟨hG _ _ i, step x List.mem_cons_self _ M i _ _ fun d M' i' => ⟨by rw [List.length_cons] at hz; omega, ?_⟩⟩
    exact lc_acc I hG xs (acc ++ [d]) M' i' (fun y hy => step y (List.mem_cons_of_mem _ hy)) (by rw [List.length_append]; simp at hz ⊢; omega) (fun ds M2 e j => h ds M2 (by rw [e]; simp; omega) j)
/-- a comprehension with a test, nothing else happens -/
theorem lc_flt {α : Type} {g : DTG} {tt : DTT} {te : DTE} {G : Mp → Prop} {ρ : Rho} {k : List DL.D → Mp → Prop} {M : Mp} (x : α → DL.D) (b : α → Bool) (f : α → DL.D) (hG : G M) : ∀ (xs : List α) (acc : List DL.D),
    (∀ z ∈ xs, ∀ (K1 : DK) (K2 : Mp → Prop), (b z = true → K1 (f z) M) → (b z = false → K2 M) → g (x z) ρ M fun ρ2 M2 => tt ρ2 M2 fun b M3 => if b = true then te ρ2 M3 K1 else K2 M3) →
    acc.length + xs.length ≤ sizeLine → k (acc ++ (xs.filter b).map f) M → lcW g tt te G ρ k (xs.map x) acc M
  | [], acc, _, _, h => ⟨hG, by simpa using h⟩
  | z :: xs, acc, step, hz, h => by
    refine ⟨hG, step z List.mem_cons_self _ _ (fun hb => ⟨by rw [List.length_cons] at hz; omega, ?_⟩) fun hb => ?_⟩
    · refine lc_flt x b f hG xs (acc ++ [f z]) (fun y hy => step y (List.mem_cons_of_mem _ hy)) (by rw [List.length_append]; simp at hz ⊢; omega) ?_
      rw [List.filter_cons, if_pos hb] at h
      simpa using h
    · refine lc_flt x b f hG xs acc (fun y hy => step y (List.mem_cons_of_mem _ hy)) (by simp at hz ⊢; omega) ?_
      rw [List.filter_cons, if_neg (by simp [hb])] at h
      exact h
/-- a comprehension of pure values -/
theorem lc_pure {α : Type} {g : DTG} {tt : DTT} {te : DTE} {G : Mp → Prop} {ρ : Rho} {k : List DL.D → Mp → Prop} {M : Mp} (x f : α → DL.D) (hG : G M) (xs : List α)
    (step : ∀ z ∈ xs, ∀ (K1 : DK) (K2 : Mp → Prop), K1 (f z) M → g (x z) ρ M fun ρ2 M2 => tt ρ2 M2 fun b M3 => if b = true then te ρ2 M3 K1 else K2 M3)
    (hz : xs.length ≤ sizeLine) (h : k (xs.map f) M) : lcW g tt te G ρ k (xs.map x) [] M := by
  refine lc_flt x (fun _ => true) f hG xs [] (fun z hz K1 K2 h1 _ => step z hz K1 K2 (h1 rfl)) (by simpa using hz) ?_
  rw [List.filter_eq_self.mpr (fun _ _ => rfl)]
  simpa using h

/-! ### the table -/
abbrev R (a : Row) : DL.D := .tup (a.map .str)
theorem R_len (a : Row) : (a.map DL.D.str).length = a.length := List.length_map ..
theorem R_at {a : Row} {i : Nat} {x : Str} (h : a[i]? = some x) : atI (a.map DL.D.str) (i : Int) = some (.str x) := L2.atI_nat (by rw [List.getElem?_map, h]; rfl)
def rowT (n : Nat) (T : Nat → Nat → Nat) (i : Nat) : List DL.D := (List.range (n + 1)).map fun j => .int (T i j : Nat)
structure Tab (M : Mp) (ls : List Addr) (m n : Nat) (T : Nat → Nat → Nat) : Prop where
  len : ls.length = m + 1
  nd : ls.Nodup
  at' : ∀ (i : Nat) (r : Addr), ls[i]? = some r → M r = some (.lst (rowT n T i))
variable {a b : Row}
theorem Tab.row {M : Mp} {ls : List Addr} {m n : Nat} {T : Nat → Nat → Nat} (t : Tab M ls m n T) {i : Nat} (hi : i ≤ m) : ∃ r, ls[i]? = some r ∧ M r = some (.lst (rowT n T i)) := by
  have h : i < ls.length := by rw [t.len]; omega
  exact ⟨ls[i], List.getElem?_eq_getElem h, t.at' _ _ (List.getElem?_eq_getElem h)⟩
theorem rowT_at {n : Nat} {T : Nat → Nat → Nat} {i j : Nat} (hj : j ≤ n) : atI (rowT n T i) (j : Int) = some (.int (T i j : Nat)) := by
  refine L2.atI_nat ?_
  unfold rowT
  rw [List.getElem?_map, List.getElem?_range (by omega)]
  rfl
theorem refs_at {ls : List Addr} {i : Nat} {r : Addr} (h : ls[i]? = some r) : atI (ls.map DL.D.ref) (i : Int) = some (.ref r) := L2.atI_nat (by rw [List.getElem?_map, h]; rfl)
theorem ixN_n {n j : Nat} (hj : j < n) : ixN n (j : Int) = some j := by
  unfold L2.ixN
  rw [if_pos (by omega), if_pos (by omega)]
  simp
theorem tab_row {M : Mp} {ls : List Addr} {m n : Nat} {T : Nat → Nat → Nat} (t : Tab M ls m n T) {i : Nat} (hi : i ≤ m) {Q : DK} (q : ∀ r, ls[i]? = some r → M r = some (.lst (rowT n T i)) → Q (.ref r) M) : rIxD (.lst (ls.map .ref)) (.int (i : Nat)) M Q := by
  obtain ⟨r, h1, h2⟩ := t.row hi
  exact ⟨_, _, rfl, refs_at h1, q r h1 h2⟩
/-- a cell of the table -/
theorem tab_cell {M : Mp} {ls : List Addr} {m n : Nat} {T : Nat → Nat → Nat} (t : Tab M ls m n T) {ρ : Rho} {te ti tj : DTE} {i j : Nat} {p q : Int} (hi : i ≤ m) (hj : j ≤ n) (ep : p = (i : Nat)) (eq : q = (j : Nat)) (he : ∀ Q : DK, Q (.lst (ls.map .ref)) M → te ρ M Q) (h1 : ∀ Q : DK, Q (.int p) M → ti ρ M Q) (h2 : ∀ Q : DK, Q (.int q) M → tj ρ M Q) {Q : DK}
    (k : Q (.int (T i j : Nat)) M) : dOp rIxD (dOp rIxD te ti) tj ρ M Q := by
  subst ep eq
  refine he _ (h1 _ (tab_row t hi fun r e1 e2 => h2 _ ?_))
  exact ⟨_, _, (show mol (M r) = _ by rw [e2]; rfl), rowT_at hj, k⟩
def putT (T : Nat → Nat → Nat) (i j v : Nat) : Nat → Nat → Nat := fun i' j' => if i' = i ∧ j' = j then v else T i' j'
theorem rowT_put (n : Nat) (T : Nat → Nat → Nat) {i j v : Nat} (hj : j ≤ n) : (rowT n T i).set j (.int (v : Nat)) = rowT n (putT T i j v) i := by
  unfold rowT
  refine List.ext_getElem? fun k => ?_
  rw [List.getElem?_set, List.length_map, List.length_range, List.getElem?_map, List.getElem?_map]
  by_cases hk : k < n + 1
  · rw [List.getElem?_range hk]
    by_cases e : j = k
    · subst e
      rw [if_pos rfl, if_pos hk]
      simp [putT]
    · rw [if_neg e]
      have : ¬ k = j := fun z => e z.symm
      simp [putT, this]
  · rw [List.getElem?_eq_none (by simp; omega)]
    split <;> simp
    omega
theorem Tab.put {M : Mp} {ls : List Addr} {m n : Nat} {T : Nat → Nat → Nat} (t : Tab M ls m n T) {i j v : Nat} {r : Addr} (h : ls[i]? = some r) (hj : j ≤ n) : Tab (mu M r (.lst ((rowT n T i).set j (.int (v : Nat))))) ls m n (putT T i j v) := by
  refine ⟨t.len, t.nd, fun i' r' h' => ?_⟩
  by_cases e : i' = i
  · subst e
    rw [h] at h'
    cases h'
    rw [mu_same, rowT_put n T hj]
  · have ne : r' ≠ r := by
      rintro rfl
      have l1 : i' < ls.length := (List.getElem?_eq_some_iff.mp h').1
      have := (List.getElem?_inj l1 t.nd).mp (h'.trans h.symm)
      exact e this
    rw [mu_ne ne, t.at' _ _ h']
    unfold rowT putT
    simp [e]
theorem Tab.eq {M : Mp} {ls : List Addr} {m n : Nat} {T T' : Nat → Nat → Nat} (t : Tab M ls m n T) (h : ∀ i j, i ≤ m → j ≤ n → T i j = T' i j) : Tab M ls m n T' := by
  refine ⟨t.len, t.nd, fun i r e => ?_⟩
  rw [t.at' i r e]
  have hi : i < ls.length := (List.getElem?_eq_some_iff.mp e).1
  rw [t.len] at hi
  congr 2
  unfold rowT
  refine List.map_congr_left fun j hj => ?_
  rw [List.mem_range] at hj
  rw [h i j (by omega) (by omega)]
/-- a cell stored -/
theorem tab_set {M : Mp} {ls : List Addr} {m n : Nat} {T : Nat → Nat → Nat} (t : Tab M ls m n T) {ρ : Rho} {te ti tj : DTE} {i j v : Nat} (hi : i ≤ m) (hj : j ≤ n) (he : ∀ Q : DK, Q (.lst (ls.map .ref)) M → te ρ M Q) (h1 : ∀ Q : DK, Q (.int (i : Nat)) M → ti ρ M Q) (h2 : ∀ Q : DK, Q (.int (j : Nat)) M → tj ρ M Q) {Q : Rho → Mp → Prop}
    (k : ∀ r o, ls[i]? = some r → Tab (mu M r o) ls m n (putT T i j v) → Q ρ (mu M r o)) : dgSub (dOp rIxD te ti) tj rSetD (.int (v : Nat)) ρ M Q := by
  refine he _ (h1 _ (tab_row t hi fun r e1 e2 => h2 _ ?_))
  refine ⟨r, _, _, j, rfl, rfl, e2, ?_, k r _ e1 (t.put e1 hj)⟩
  refine ixN_n ?_
  unfold rowT
  simp
  omega
theorem maxI (i j : Nat) : (if (j : Int) > (i : Int) then (j : Int) else (i : Int)) = ((max i j : Nat) : Int) := by
  by_cases h : j > i
  · rw [if_pos (by omega), Nat.max_eq_right (by omega)]
  · rw [if_neg (by omega), Nat.max_eq_left (by omega)]
theorem eq_strs {x y : Str} {M : Mp} {Q : DK} (q : Q (.bl (decide (x = y))) M) : rEqD2 false (.str x) (.str y) M Q := q
theorem eq_ints {x y : Int} {M : Mp} {Q : DK} (q : Q (.bl (decide (x = y))) M) : rEqD2 false (.int x) (.int y) M Q := q
theorem ifS_b {t : DTE} {x y : DTS} {D : DEnds} {ρ : Rho} {M : Mp} (h : t ρ M fun d M1 => ∃ b, d = .bl b ∧ if b = true then x D ρ M1 else y D ρ M1) : dIfS (dB t) x y D ρ M := h
theorem asg_v {t : DTE} {g : DTG} {D : DEnds} {ρ : Rho} {M : Mp} (h : t ρ M fun d M1 => g d ρ M1 D.nx) : dAsg t g D ρ M := h
theorem cb2 {r : RDL} {t u : DTE} {ρ : Rho} {M : Mp} {Q : DK} (h : t ρ M fun d M1 => u ρ M1 fun e M2 => r [d, e] M2 Q) : dCB r (dCons t (dCons u dNil)) ρ M Q := h
/-- two texts of two rows -/
theorem rows_eq {ρ : Rho} {M : Mp} {ta tb ti tj : DTE} {i j : Nat} (hi : i < a.length) (hj : j < b.length) (ha : ∀ Q : DK, Q (R a) M → ta ρ M Q) (hb : ∀ Q : DK, Q (R b) M → tb ρ M Q) (h1 : ∀ Q : DK, Q (.int (i : Nat)) M → ti ρ M Q) (h2 : ∀ Q : DK, Q (.int (j : Nat)) M → tj ρ M Q) {Q : DK}
    (k : Q (.bl (decide (a[i]? = b[j]?))) M) : dOp (rEqD2 false) (dOp rIxD ta ti) (dOp rIxD tb tj) ρ M Q := by
  refine ha _ (h1 _ ⟨_, _, rfl, R_at (List.getElem?_eq_getElem hi), hb _ (h2 _ ⟨_, _, rfl, R_at (List.getElem?_eq_getElem hj), eq_strs ?_⟩)⟩)
  rw [List.getElem?_eq_getElem hi, List.getElem?_eq_getElem hj] at k
  simpa using k
/-! ### longest_from -/
/-- between two turns: below (i, j) nothing is known -/
def Tij (a b : Row) (i j : Nat) : Nat → Nat → Nat := fun p q => if p ≤ a.length ∧ q ≤ b.length ∧ (i < p ∨ (p = i ∧ j ≤ q)) then lc a b p q else 0
def sp_longest : DS1 := fun ds M Q => ∃ a b : Row, ds = [R a, R b] ∧ a.length ≤ 100 ∧ b.length ≤ 100 ∧ ∀ ls M1, SubM M M1 → (∀ r ∈ ls, M r = none) → Tab M1 ls a.length b.length (lc a b) → Q (.lst (ls.map .ref)) M1
theorem rg_len (lo : Int) (n : Nat) : (rgD lo n).length = n := by unfold rgD; simp
theorem zeros (n : Nat) : (List.replicate (n + 1) [DL.D.int 0]).flatten = rowT n (fun _ _ => 0) 0 := by
  unfold rowT
  refine List.ext_getElem? fun k => ?_
  have e : (List.replicate (n + 1) [DL.D.int 0]).flatten = List.replicate (n + 1) (.int 0) := by
    induction n with
    | zero => rfl
    | succ n ih => rw [List.replicate_succ, List.flatten_cons, ih]; rfl
  rw [e, List.getElem?_map]
  by_cases h : k < n + 1
  · rw [List.getElem?_range h, List.getElem?_replicate, if_pos h]; rfl
  · rw [List.getElem?_eq_none (by simp; omega), List.getElem?_eq_none (by simp; omega)]; rfl
theorem rd_longest : ∀ ds M Q, sp_longest ds M Q → ds.length = 2 ∧ r_longest_from { nx := fun _ M' => Q .non M', rt := Q } (dstart N_longest_from ds) M := by
  rintro _ M Q ⟨a, b, rfl, la, lb, q⟩
  refine ⟨rfl, ?_⟩
  refine ⟨_, rfl, _, rfl, _, rfl, by rw [R_len]; omega, by rw [R_len]; omega, ?_⟩
  rw [R_len, show ((a.length : Int) + 1).toNat = a.length + 1 by omega]
  refine lc_acc (fun ds M1 => ∃ ls : List Addr, ds = ls.map .ref ∧ SubM M M1 ∧ ls.Nodup ∧ ∀ r ∈ ls, M r = none ∧ M1 r = some (.lst (rowT b.length (fun _ _ => 0) 0))) (fun _ _ _ => trivial) _ [] M ⟨[], rfl, SubM.refl M, List.nodup_nil, fun _ h => nomatch h⟩ ?_ (by rw [rg_len]; exact small (by simp; omega)) ?_
  · rintro x hx ds M1 ⟨ls, rfl, sub, nd, all⟩ K1 K2 k
    refine ⟨small (by simp), ?_⟩
    refine ⟨_, rfl, _, rfl, ?_⟩
    refine ⟨_, rfl, by rw [R_len]; omega, by rw [R_len]; omega, by rw [R_len]; exact small (by simp; omega), fun r hr => ?_⟩
    rw [R_len, show ((b.length : Int) + 1).toNat = b.length + 1 by omega, zeros]
    have nr : r ∉ ls := fun h => by rw [(all r h).2] at hr; cases hr
    refine k _ _ ⟨ls ++ [r], by simp, sub.mu (SubM.none sub hr) _, ?_, fun x hx => ?_⟩
    · exact List.nodup_append.mpr ⟨nd, by simp, fun x hx y hy => by
        rw [List.mem_singleton.mp hy]
        rintro rfl
        exact nr hx⟩
    · rcases List.mem_append.mp hx with z | z
      · rw [mu_ne (fun h => by subst h; exact nr z)]; exact all x z
      · rw [List.mem_singleton.mp z, mu_same]
        exact ⟨SubM.none sub hr, rfl⟩
  · rintro ds M1 e ⟨ls, rfl, sub, nd, all⟩
    rw [rg_len, List.length_map, List.length_nil, Nat.zero_add] at e
    have fr : ∀ r ∈ ls, M r = none := fun r h => (all r h).1
    have t0 : Tab M1 ls a.length b.length (Tij a b a.length 0) := by
      refine Tab.eq (T := fun _ _ => 0) ⟨e, nd, fun i r h => ?_⟩ fun i j h1 h2 => ?_
      · rw [(all r (List.mem_of_getElem? h)).2]; rfl
      · unfold Tij
        split
        · rw [lc_end1 (by omega)]
        · rfl
    clear all nd
    refine newTr ?_
    refine ⟨_, rfl, _, rfl, _, _, rfl, rfl, trivial, _, rfl, _, rfl, _, _, rfl, rfl, rfl, ⟨by rw [R_len]; omega, by rw [R_len]; omega, by omega, by omega⟩, ?_⟩
    rw [R_len, show ((a.length : Int) - 1 - -1).toNat = a.length by omega]
    refine for_cnt _ a.length (fun k ρ M' => ∃ h t p, ρ = [some (R a), some (R b), some (.lst (ls.map .ref)), h, t, p] ∧ SubM M M' ∧ Tab M' ls a.length b.length (Tij a b (a.length - k) 0)) (fun _ _ _ _ => trivial) ?_ ?_ ⟨_, _, _, rfl, sub, t0⟩
    · rintro k hk ρ M' ⟨h, t, p, rfl, sub', tb⟩ N next
      have ei : (a.length : Int) - 1 + (k : Nat) * (-1) = ((a.length - 1 - k : Nat) : Int) := by omega
      rw [ei]
      obtain ⟨i, hi⟩ : ∃ i, i = a.length - 1 - k := ⟨_, rfl⟩
      rw [← hi]
      have hi2 : i < a.length := by omega
      rw [show a.length - k = i + 1 by omega] at tb
      have tb0 : Tab M' ls a.length b.length (Tij a b i (b.length - 0)) := tb.eq fun p q hp hq => by
        unfold Tij
        by_cases h1 : p ≤ a.length ∧ q ≤ b.length ∧ (i + 1 < p ∨ p = i + 1 ∧ 0 ≤ q)
        · rw [if_pos h1, if_pos ⟨hp, hq, .inl (by omega)⟩]
        · rw [if_neg h1]
          split
          · rename_i h2
            rw [lc_end2 (by omega)]
          · rfl
      clear tb t0
      refine ⟨_, rfl, _, rfl, _, _, rfl, rfl, trivial, _, rfl, _, rfl, _, _, rfl, rfl, rfl, ⟨by rw [R_len]; omega, by rw [R_len]; omega, by omega, by omega⟩, ?_⟩
      rw [R_len, show ((b.length : Int) - 1 - -1).toNat = b.length by omega]
      refine for_cnt _ b.length (fun l ρ M' => ∃ t p, ρ = [some (R a), some (R b), some (.lst (ls.map .ref)), some (.int (i : Nat)), t, p] ∧ SubM M M' ∧ Tab M' ls a.length b.length (Tij a b i (b.length - l))) (fun _ _ _ _ => trivial) ?_ ?_ ⟨_, _, rfl, sub', tb0⟩
      · rintro l hl ρ M2 ⟨t, p, rfl, sub2, tb2⟩ N next2
        have ej : (b.length : Int) - 1 + (l : Nat) * (-1) = ((b.length - 1 - l : Nat) : Int) := by omega
        rw [ej]
        obtain ⟨j, hj⟩ : ∃ j, j = b.length - 1 - l := ⟨_, rfl⟩
        rw [← hj]
        have hj2 : j < b.length := by omega
        rw [show b.length - l = j + 1 by omega] at tb2
        rw [show b.length - (l + 1) = j by omega] at next2
        have s2 : ∀ {o : Option DL.D} {p : Option DL.D} {M : Mp} (Q : DK), Q (.lst (ls.map .ref)) M → dSlot 2 [some (R a), some (R b), some (.lst (ls.map .ref)), o, some (.int (j : Nat)), p] M Q := fun Q q => ⟨_, rfl, q⟩
        have v1 : Tij a b i (j + 1) (i + 1) j = lc a b (i + 1) j := by unfold Tij; rw [if_pos ⟨by omega, by omega, .inl (by omega)⟩]
        have v2 : Tij a b i (j + 1) i (j + 1) = lc a b i (j + 1) := by unfold Tij; rw [if_pos ⟨by omega, by omega, .inr ⟨rfl, Nat.le_refl _⟩⟩]
        have v3 : Tij a b i (j + 1) (i + 1) (j + 1) = lc a b (i + 1) (j + 1) := by unfold Tij; rw [if_pos ⟨by omega, by omega, .inl (by omega)⟩]
        refine tab_cell tb2 (i := i + 1) (j := j) (p := (i : Int) + 1) (by omega) (by omega) (by omega) rfl s2 (fun Q q => ⟨_, rfl, q⟩) (fun Q q => ⟨_, rfl, q⟩) ?_
        refine tab_cell tb2 (i := i) (j := j + 1) (q := (j : Int) + 1) (by omega) (by omega) rfl (by omega) s2 (fun Q q => ⟨_, rfl, q⟩) (fun Q q => ⟨_, rfl, q⟩) ?_
        rw [v1, v2]
        refine ⟨_, _, rfl, ?_⟩
        rw [maxI]
        refine tab_set tb2 (i := i) (j := j) (by omega) (by omega) s2 (fun Q q => ⟨_, rfl, q⟩) (fun Q q => ⟨_, rfl, q⟩) fun r o hr tb3 => ?_
        have sub3 : SubM M (mu M2 r o) := sub2.mu (fr r (List.mem_of_getElem? hr)) o
        dsimp only
        refine ifS_b ?_
        refine rows_eq (a := a) (b := b) hi2 hj2 (fun Q q => ⟨_, rfl, q⟩) (fun Q q => ⟨_, rfl, q⟩) (fun Q q => ⟨_, rfl, q⟩) (fun Q q => ⟨_, rfl, q⟩) ?_
        refine ⟨_, rfl, ?_⟩
        have stp := lc_step (a := a) (b := b) hi2 hj2
        by_cases e : a[i]? = b[j]?
        · rw [decide_eq_true e, if_pos rfl]
          rw [if_pos e] at stp
          refine tab_cell tb3 (i := i) (j := j) (by omega) (by omega) rfl rfl s2 (fun Q q => ⟨_, rfl, q⟩) (fun Q q => ⟨_, rfl, q⟩) ?_
          refine tab_cell tb3 (i := i + 1) (j := j + 1) (p := (i : Int) + 1) (q := (j : Int) + 1) (by omega) (by omega) (by omega) (by omega) s2 (fun Q q => ⟨_, rfl, q⟩) (fun Q q => ⟨_, rfl, q⟩) ?_
          have w1 : putT (Tij a b i (j + 1)) i j (max (lc a b (i + 1) j) (lc a b i (j + 1))) i j = max (lc a b (i + 1) j) (lc a b i (j + 1)) := by unfold putT; simp
          have w2 : putT (Tij a b i (j + 1)) i j (max (lc a b (i + 1) j) (lc a b i (j + 1))) (i + 1) (j + 1) = lc a b (i + 1) (j + 1) := by unfold putT; rw [if_neg (by omega), v3]
          rw [w1, w2]
          refine ⟨_, ((1 + lc a b (i + 1) (j + 1) : Nat) : Int), by rw [show ((1 + lc a b (i + 1) (j + 1) : Nat) : Int) = 1 + ((lc a b (i + 1) (j + 1) : Nat) : Int) by omega], ?_⟩
          rw [maxI]
          refine tab_set tb3 (i := i) (j := j) (by omega) (by omega) s2 (fun Q q => ⟨_, rfl, q⟩) (fun Q q => ⟨_, rfl, q⟩) fun r' o' hr' tb4 => ?_
          refine next2 _ _ ⟨_, _, rfl, sub3.mu (fr r' (List.mem_of_getElem? hr')) o', tb4.eq fun p q hp hq => ?_⟩
          unfold putT
          by_cases c : p = i ∧ q = j
          · obtain ⟨rfl, rfl⟩ := c
            rw [if_pos ⟨rfl, rfl⟩, ← stp]
            unfold Tij
            rw [if_pos ⟨hp, hq, .inr ⟨rfl, Nat.le_refl _⟩⟩]
          · rw [if_neg c, if_neg c]
            unfold Tij
            by_cases d : i < p ∨ p = i ∧ j + 1 ≤ q
            · rw [if_pos ⟨hp, hq, d⟩, if_pos ⟨hp, hq, by omega⟩]
            · rw [if_neg (fun z => d z.2.2), if_neg (fun z => d (by omega))]
        · rw [decide_eq_false e, if_neg (by simp)]
          rw [if_neg e] at stp
          refine next2 _ _ ⟨_, _, rfl, sub3, tb3.eq fun p q hp hq => ?_⟩
          unfold putT
          by_cases c : p = i ∧ q = j
          · obtain ⟨rfl, rfl⟩ := c
            rw [if_pos ⟨rfl, rfl⟩, ← stp]
            unfold Tij
            rw [if_pos ⟨hp, hq, .inr ⟨rfl, Nat.le_refl _⟩⟩]
          · rw [if_neg c]
            unfold Tij
            by_cases d : i < p ∨ p = i ∧ j + 1 ≤ q
            · rw [if_pos ⟨hp, hq, d⟩, if_pos ⟨hp, hq, by omega⟩]
            · rw [if_neg (fun z => d z.2.2), if_neg (fun z => d (by omega))]
      · rintro ρ M3 ⟨t, p, rfl, sub3, tb3⟩
        refine next _ _ ⟨_, _, _, rfl, sub3, ?_⟩
        rw [Nat.sub_self] at tb3
        rw [show a.length - (k + 1) = i by omega]
        exact tb3
    · rintro ρ M' ⟨h, t, p, rfl, sub', tb⟩
      refine ⟨_, rfl, q ls M' sub' fr (tb.eq fun p q hp hq => ?_)⟩
      unfold Tij
      rw [if_pos ⟨hp, hq, by omega⟩]
end K90

set_option maxHeartbeats 4000000
/-! K90e: fits, pairs_of, check_row, common. -/
namespace K90
open PySem PySem.Spec DL KB
open L2 (atI ixN)
open PyProof.Rows hiding St signs
variable {a b : Row}
theorem iteF {A B : Prop} (h : B) : if false = true then A else B := by rw [if_neg (by simp)]; exact h
theorem iteT {A B : Prop} (h : A) : if true = true then A else B := by rw [if_pos rfl]; exact h
def sp_fits : DS1 := fun ds M Q => ∃ (a b : Row) (ls : List Addr) (p q l : Nat), ds = [R a, R b, .lst (ls.map .ref), .int (p : Nat), .int (q : Nat), .int (l : Nat)] ∧ Tab M ls a.length b.length (lc a b) ∧ p < a.length ∧ q < b.length ∧ Q (.bl (fit a b l p q)) M
theorem rd_fits : ∀ ds M Q, sp_fits ds M Q → ds.length = 6 ∧ r_fits { nx := fun _ M' => Q .non M', rt := Q } (dstart N_fits ds) M := by
  rintro _ M Q ⟨a, b, ls, p, q, l, rfl, tb, hp, hq, k⟩
  refine ⟨rfl, ?_⟩
  unfold r_fits dRet dAndV
  refine rows_eq (a := a) (b := b) hp hq (fun Q q => ⟨_, rfl, q⟩) (fun Q q => ⟨_, rfl, q⟩) (fun Q q => ⟨_, rfl, q⟩) (fun Q q => ⟨_, rfl, q⟩) ?_
  refine ⟨_, rfl, ?_⟩
  unfold fit at k
  by_cases e : a[p]? = b[q]?
  · rw [decide_eq_true e] at k ⊢
    rw [if_pos rfl]
    refine tab_cell tb (i := p + 1) (j := q + 1) (p := (p : Int) + 1) (q := (q : Int) + 1) (by omega) (by omega) (by omega) (by omega) (fun Q q => ⟨_, rfl, q⟩) (fun Q q => ⟨_, rfl, q⟩) (fun Q q => ⟨_, rfl, q⟩) ?_
    refine ⟨_, rfl, _, _, rfl, rfl, trivial, ?_⟩
    refine eq_ints ?_
    rw [Bool.true_and] at k
    have : decide (((lc a b (p + 1) (q + 1) : Nat) : Int) = (l : Int) - 1) = decide (lc a b (p + 1) (q + 1) + 1 = l) := by
      by_cases h : lc a b (p + 1) (q + 1) + 1 = l
      · rw [decide_eq_true h, decide_eq_true (by omega)]
      · rw [decide_eq_false h, decide_eq_false (by omega)]
    rw [this]
    exact k
  · rw [decide_eq_false e] at k ⊢
    rw [if_neg (by simp)]
    exact k
/-! ### pairs_of -/
def pv (x : Nat × Nat) : DL.D := .tup [.int (x.1 : Nat), .int (x.2 : Nat)]
def chD (c : Ch) : List DL.D := c.map pv
theorem firstF_snoc {l j : Nat} (x : Nat) : ∀ ps : List Nat, firstF a b l j (ps ++ [x]) = if firstF a b l j ps = [] then rowF a b l j x else firstF a b l j ps
  | [] => by
    show (if rowF a b l j x = [] then [] else rowF a b l j x) = _
    by_cases h : rowF a b l j x = []
    · rw [if_pos h, h]; rfl
    · rw [if_neg h]; rfl
  | p :: ps => by
    show (if _ then _ else _) = if (if _ then _ else _) = [] then _ else (if _ then _ else _)
    by_cases h : rowF a b l j p = []
    · rw [if_pos h, if_pos h]; exact firstF_snoc x ps
    · rw [if_neg h, if_neg h, if_neg h]
theorem int_gd {n : Nat} (h : n ≤ 1000000) : gd (.int (n : Nat)) = true := by
  have : n.log2 ≤ n := Nat.log2_le_self _
  have e : ((n : Int).natAbs) = n := rfl
  by_cases h0 : n = 0
  · subst h0; decide
  · have : n.log2 < 1900 := (Nat.log2_lt h0).mpr (Nat.lt_of_le_of_lt h (by decide +kernel))
    simpa [gd] using this
theorem eq_nilL {M : Mp} {xs : List DL.D} {Q : DK} (g : ∀ x ∈ xs, gd x = true) (d : depAll xs ≤ 60) (q : Q (.bl xs.isEmpty) M) : rEqD2 false (.lst xs) (.lst []) M Q := by
  obtain ⟨ps, e, h1, h2, h3⟩ := pyAll_gd xs g
  refine ⟨.list ps, .list [], ?_, rfl, ?_, by decide, ?_⟩
  · show (match pyAll xs with | some ps => some (PyData.list ps) | none => none) = _
    rw [e]
  · unfold SeqAt.shaped
    simp only [PyData.canLay0, PyData.depth, h2, h3, Bool.true_and, decide_eq_true_eq]
    omega
  · have : PyData.eqv (.list ps) (.list []) = xs.isEmpty := by
      cases xs with
      | nil => simp [pyAll] at e; subst e; rfl
      | cons x xs =>
        simp only [pyAll] at e
        split at e
        · cases e; rfl
        · cases e
    rw [if_neg (by simp), this]
    exact q
theorem firstF_mem {l j : Nat} {x : Nat × Nat} : ∀ {ps : List Nat}, x ∈ firstF a b l j ps → x.1 ∈ ps ∧ x.2 < j + (b.length - j)
  | [], h => nomatch h
  | p :: ps, h => by
    unfold firstF at h
    split at h
    · obtain ⟨h1, h2⟩ := firstF_mem h
      exact ⟨List.mem_cons_of_mem _ h1, h2⟩
    · unfold rowF at h
      obtain ⟨q, hq, rfl⟩ := List.mem_map.mp h
      have := (List.mem_filter.mp hq).1
      rw [List.mem_range'_1] at this
      exact ⟨List.mem_cons_self, this.2⟩
theorem ch_len : ∀ {c : Ch} {i j : Nat}, isCh a b i j c → c.length ≤ a.length - i
  | [], _, _, _ => Nat.zero_le _
  | x :: r, i, j, ⟨h1, h2, h3, h4, h5, h6⟩ => by
    have := ch_len h6
    simp only [List.length_cons]
    omega
theorem lc_le (a b : Row) (i j : Nat) : lc a b i j ≤ a.length - i := by
  obtain ⟨h1, h2⟩ := gr_ch (a := a) (b := b) (i := i) (j := j) rfl
  rw [← h2]
  exact ch_len h1
theorem pv_gd {x : Nat × Nat} (h1 : x.1 ≤ 1000000) (h2 : x.2 ≤ 1000000) : gd (pv x) = true := by
  unfold pv
  refine gd_tup.mpr ⟨by simp, fun y hy => ?_⟩
  simp at hy
  rcases hy with rfl | rfl
  · exact int_gd h1
  · exact int_gd h2
theorem ch_dep (c : Ch) : depAll (chD c) ≤ 1 := by
  refine depAll_le.mpr fun x hx => ?_
  obtain ⟨y, _, rfl⟩ := List.mem_map.mp hx
  simp [pv, dep, depAll]
theorem rgD_nat (j n : Nat) : rgD (j : Int) n = (List.range' j n).map fun q => .int (q : Nat) := by
  unfold rgD
  refine List.ext_getElem? fun k => ?_
  rw [List.getElem?_map, List.getElem?_map]
  by_cases h : k < n
  · rw [List.getElem?_range h, List.getElem?_range' h]
    simp
  · rw [List.getElem?_eq_none (by simp; omega), List.getElem?_eq_none (by simp; omega)]; rfl
def grA (a b : Row) : Ch := gr a b (lc a b 0 0) 0 0
def sp_pairs0 : DS1 := fun ds M Q => ∃ a b : Row, ds = [R a, R b] ∧ a.length ≤ 100 ∧ b.length ≤ 100 ∧ ∀ M', SubM M M' → Q (.lst (chD (grA a b))) M'
def sp_pairs : DS1 := fun ds M Q => ∃ a b : Row, ds = [R a, R b] ∧ a.length ≤ 100 ∧ b.length ≤ 100 ∧ Q (.lst (chD (grA a b))) M
theorem wk_pairs : ∀ ds M Q, sp_pairs ds M Q → sp_pairs0 ds M fun d M1 => ∃ M2, SubM M2 M1 ∧ Q d M2 :=
  fun _ M _ ⟨a, b, e, la, lb, q⟩ => ⟨a, b, e, la, lb, fun _ s => ⟨M, s, q⟩⟩
theorem rd_pairs : ∀ ds M Q, sp_pairs0 ds M Q → ds.length = 2 ∧ r_pairs_of sp_longest sp_fits { nx := fun _ M' => Q .non M', rt := Q } (dstart N_pairs_of ds) M := by
  rintro _ M Q ⟨a, b, rfl, la, lb, q⟩
  refine ⟨rfl, ?_⟩
  refine ⟨_, rfl, _, rfl, a, b, rfl, la, lb, fun ls M1 sub fr tb => ?_⟩
  refine ⟨Nat.zero_le _, fun p hp => ?_⟩
  refine ⟨small (by simp), _, rfl, rfl, _, _, rfl, _, _, rfl, _, _, rfl, _, _, rfl, rfl, ?_⟩
  have tbm : ∀ o, Tab (mu M1 p o) ls a.length b.length (lc a b) := fun o => ⟨tb.len, tb.nd, fun i r h => by
    have e := tb.at' i r h
    have ne : r ≠ p := by rintro rfl; rw [hp] at e; cases e
    rw [mu_ne ne]; exact e⟩
  refine ⟨fun m ρ M' => ∃ acc i j x6 x7 x8 x9, ρ = [some (R a), some (R b), some (.lst (ls.map .ref)), some (.ref p), some (.int (i : Nat)), some (.int (j : Nat)), x6, x7, x8, x9] ∧ M' = mu M1 p (.lst (chD acc)) ∧ i ≤ a.length ∧ j ≤ b.length ∧ m = lc a b i j ∧ acc ++ gr a b (lc a b i j) i j = grA a b,
    ⟨_, [], 0, 0, none, none, none, none, rfl, rfl, Nat.zero_le _, Nat.zero_le _, rfl, rfl⟩, ?_⟩
  rintro m ρ M' ⟨acc, i, j, x6, x7, x8, x9, rfl, rfl, hi, hj, rfl, ega⟩
  have s2 : ∀ {x6 x7 x8 x9 : Option DL.D} {M : Mp} (Q : DK), Q (.lst (ls.map .ref)) M → dSlot 2 [some (R a), some (R b), some (.lst (ls.map .ref)), some (.ref p), some (.int (i : Nat)), some (.int (j : Nat)), x6, x7, x8, x9] M Q := fun Q q => ⟨_, rfl, q⟩
  refine tab_cell (tbm _) (i := i) (j := j) hi hj rfl rfl s2 (fun Q q => ⟨_, rfl, q⟩) (fun Q q => ⟨_, rfl, q⟩) ?_
  refine ⟨_, _, rfl, rfl, trivial, _, rfl, ?_⟩
  have glen := (gr_ch (a := a) (b := b) (i := i) (j := j) rfl).2
  have g0 := (gr_ch (a := a) (b := b) (i := 0) (j := 0) rfl).2
  have l0 := lc_le a b 0 0
  have al : acc.length + lc a b i j ≤ 100 := by
    have := congrArg List.length ega
    rw [List.length_append, glen] at this
    unfold grA at this
    rw [g0] at this
    omega
  cases hl : lc a b i j with
  | zero =>
    rw [decide_eq_false (by omega)]
    refine iteF ?_
    rw [hl] at ega
    have : acc = grA a b := by rw [← ega]; unfold gr; simp
    subst this
    refine ⟨_, rfl, p, _, rfl, mu_same, ?_⟩
    rw [md_mu hp]
    exact q M1 sub
  | succ l =>
    rw [decide_eq_true (by omega)]
    refine iteT ?_
    obtain ⟨p0, q0, r, f1, f2, f3, f4, f5, f6, f7, f8⟩ := pair_spec hl
    refine ⟨_, fun _ _ h => h, ?_⟩
    refine tab_cell (tbm _) (i := i) (j := j) hi hj rfl rfl s2 (fun Q q => ⟨_, rfl, q⟩) (fun Q q => ⟨_, rfl, q⟩) ?_
    rw [hl]
    refine ⟨Nat.zero_le _, ?_⟩
    refine newTr ?_
    refine ⟨_, rfl, _, rfl, _, rfl, _, _, rfl, rfl, ⟨by omega, by omega, by rw [R_len]; omega, by rw [R_len]; omega⟩, ?_⟩
    rw [R_len, show ((a.length : Int) - (i : Nat)).toNat = a.length - i by omega, rgD_nat]
    refine for_pre _ (List.range' i (a.length - i)) (fun pre ρ M' => ∃ x8 x9, ρ = [some (R a), some (R b), some (.lst (ls.map .ref)), some (.ref p), some (.int (i : Nat)), some (.int (j : Nat)), some (.int ((l + 1 : Nat) : Int)), some (.lst (chD (firstF a b (l + 1) j pre))), x8, x9] ∧ M' = mu M1 p (.lst (chD acc))) (fun _ _ _ _ => trivial) ?_ ?_ _ [] _ _ rfl ⟨_, _, rfl, rfl⟩
    · rintro pre z suf e ρ M' ⟨x8, x9, rfl, rfl⟩ N next
      have mem : ∀ y ∈ pre ++ z :: suf, i ≤ y ∧ y < a.length := fun y hy => by
        rw [e, List.mem_range'_1] at hy
        omega
      have hz := mem z (by simp)
      refine ifS_b ?_
      refine ⟨_, rfl, Nat.zero_le _, newTr ?_⟩
      refine eq_nilL (fun x hx => ?_) (Nat.le_trans (ch_dep _) (by omega)) ⟨_, rfl, ?_⟩
      · obtain ⟨y, hy, rfl⟩ := List.mem_map.mp hx
        obtain ⟨h1, h2⟩ := firstF_mem hy
        have := mem _ (List.mem_append_left _ h1)
        exact pv_gd (by omega) (by omega)
      rw [firstF_snoc] at next
      cases hF : firstF a b (l + 1) j pre with
      | cons x xs =>
        rw [hF] at next
        rw [if_neg (by simp)] at next
        exact next _ _ ⟨_, _, rfl, rfl⟩
      | nil =>
        rw [hF] at next
        rw [if_pos rfl] at next
        refine iteT ?_
        refine ⟨_, rfl, _, rfl, _, rfl, _, _, rfl, rfl, ⟨by omega, by omega, by rw [R_len]; omega, by rw [R_len]; omega⟩, ?_⟩
        rw [R_len, show ((b.length : Int) - (j : Nat)).toNat = b.length - j by omega, rgD_nat]
        refine lc_flt (fun q : Nat => DL.D.int (q : Nat)) (fit a b (l + 1) z) (fun q => pv (z, q)) trivial (List.range' j (b.length - j)) [] (fun y hy K1 K2 h1 h2 => ?_) (small (by simp; omega)) ?_
        · rw [List.mem_range'_1] at hy
          refine ⟨_, rfl, _, rfl, _, rfl, _, rfl, _, rfl, _, rfl, a, b, ls, z, y, l + 1, rfl, tbm _, hz.2, by omega, ?_⟩
          refine ⟨_, rfl, ?_⟩
          cases hb : fit a b (l + 1) z y with
          | true =>
            rw [if_pos rfl]
            exact ⟨_, rfl, _, rfl, small (by simp), h1 hb⟩
          | false =>
            rw [if_neg (by simp)]
            exact h2 hb
        · have er : [] ++ ((List.range' j (b.length - j)).filter (fit a b (l + 1) z)).map (fun q => pv (z, q)) = chD (rowF a b (l + 1) j z) := by
            unfold rowF chD
            rw [List.map_map]
            rfl
          rw [er]
          exact newTr (next _ _ ⟨_, _, rfl, rfl⟩)
    · rintro ρ M' ⟨x8, x9, rfl, rfl⟩
      rw [f1]
      have e0 : atI (chD ((p0, q0) :: r)) 0 = some (pv (p0, q0)) := ix0
      refine ⟨_, rfl, by show (mol (mu M1 p _ p)).isSome = true; rw [mu_same]; rfl, _, rfl, _, _, rfl, e0, p, _, _, rfl, rfl, mu_same, by unfold chD; rw [List.length_map]; exact Nat.lt_of_lt_of_le (show acc.length < 100000 by omega) (small (Nat.le_refl _)), ?_⟩
      rw [mu_mu]
      refine ⟨_, rfl, _, _, rfl, e0, _, _, rfl, ix0, ?_⟩
      refine ⟨_, rfl, _, _, rfl, e0, _, _, rfl, ix1, ?_⟩
      refine ⟨_, _, rfl, ?_⟩
      have ep : pair0 a b (l + 1) i j = (p0, q0) := by unfold pair0; rw [f1]; rfl
      refine ⟨lc a b (p0 + 1) (q0 + 1), by omega, acc ++ [(p0, q0)], p0 + 1, q0 + 1, _, _, _, _, rfl, ?_, by omega, by omega, rfl, ?_⟩
      · unfold chD; rw [List.map_append]; rfl
      · rw [← ega, hl, f7]
        conv => rhs; unfold gr
        rw [ep]
        simp
end K90

set_option maxHeartbeats 4000000
/-! K90f: check_row, common, blocks_of, changes. -/
namespace K90
open PySem PySem.Spec DL KB
open L2 (atI ixN)
open PyProof.Rows hiding St signs
variable {a b : Row}
/-- a row, as check_row says -/
def rowB (v : DL.D) : Bool := match v with
  | .tup xs => decide (xs.length ≤ 40) && xs.all fun d => textB d 100
  | _ => false
def okRow (a : Row) : Prop := a.length ≤ 40 ∧ ∀ x ∈ a, textB (.str x) 100 = true
theorem okRow_len {a : Row} (h : okRow a) : a.length ≤ 100 := Nat.le_trans h.1 (by omega)
theorem tx_small {x : Str} (h : textB (.str x) 100 = true) : x.cps.size ≤ 100 ∧ ∀ c ∈ x.cps.toList, okSign c = true := by
  unfold textB at h
  rw [Bool.and_eq_true, decide_eq_true_eq, List.all_eq_true] at h
  have : (x.length : Int) = (x.cps.size : Nat) := rfl
  exact ⟨by have := h.1; omega, h.2⟩
theorem tx_gd {x : Str} (h : textB (.str x) 100 = true) : gd (.str x) = true := by
  obtain ⟨h1, h2⟩ := tx_small h
  exact gd_str.mpr ⟨by omega, fun c hc => ok_small (h2 c hc)⟩
theorem row_gd {a : Row} (h : okRow a) : gd (R a) = true := gd_tup.mpr ⟨by rw [R_len]; have := h.1; omega, fun y hy => by
  obtain ⟨x, hx, rfl⟩ := List.mem_map.mp hy
  exact tx_gd (h.2 x hx)⟩
theorem row_ok {a : Row} (h : okRow a) : rowB (R a) = true := by
  unfold rowB
  rw [Bool.and_eq_true, decide_eq_true_eq, List.all_eq_true, R_len]
  refine ⟨h.1, fun y hy => ?_⟩
  obtain ⟨x, hx, rfl⟩ := List.mem_map.mp hy
  exact h.2 x hx
theorem strs_of : ∀ {xs : List DL.D}, (∀ d ∈ xs, textB d 100 = true) → ∃ a : Row, xs = a.map .str ∧ ∀ x ∈ a, textB (.str x) 100 = true
  | [], _ => ⟨[], rfl, fun _ h => nomatch h⟩
  | d :: xs, h => by
    obtain ⟨a, rfl, h2⟩ := strs_of fun y hy => h y (List.mem_cons_of_mem _ hy)
    have h1 := h d List.mem_cons_self
    cases d with
    | str x => exact ⟨x :: a, rfl, fun y hy => by
        rcases List.mem_cons.mp hy with rfl | hy
        · exact h1
        · exact h2 y hy⟩
    | _ => simp [textB] at h1
theorem row_of {v : DL.D} (h : rowB v = true) : ∃ a, v = R a ∧ okRow a := by
  cases v with
  | tup xs =>
    unfold rowB at h
    rw [Bool.and_eq_true, decide_eq_true_eq, List.all_eq_true] at h
    obtain ⟨a, rfl, h2⟩ := strs_of h.2
    rw [List.length_map] at h
    exact ⟨a, rfl, h.1, h2⟩
  | _ => simp [rowB] at h
def sp_check : DSp := fun ds M Q E => (∃ a, ds = [R a] ∧ okRow a ∧ Q .non M) ∨ ∃ v, ds = [v] ∧ gd v = true ∧ rowB v = false ∧ E "BadRow" v M
theorem check_core {v : DL.D} {M : Mp} {Q : DK} {E : DXK} (g : gd v = true) (h1 : rowB v = true → Q .non M) (h2 : rowB v = false → E "BadRow" v M) : r_check_row E sp_tuple sp_text { nx := fun _ M' => Q .non M', rt := Q } (dstart N_check_row [v]) M := by
  refine ⟨_, rfl, v, 0, 40, rfl, gd_plain g, _, rfl, ?_⟩
  cases ht : tupB v 0 40 with
  | false =>
    refine iteT (iteT ?_)
    refine ⟨_, rfl, h2 ?_⟩
    cases v <;> first | rfl | skip
    case tup xs =>
      simp [tupB] at ht
      simp [rowB]
      intro h
      omega
  | true =>
    refine iteF ?_
    cases v <;> simp [tupB] at ht
    case tup xs =>
      refine ⟨_, rfl, ?_⟩
      refine lc_map (fun d => .bl (textB d 100)) (by exact trivial) _ [] ?_ (small (by simp; omega)) ?_
      · intro d hd K1 K2 hk
        exact ⟨_, rfl, d, 100, rfl, gd_plain ((gd_tup.mp g).2 d hd), hk⟩
      · refine newTr ⟨_, xs.map fun d => textB d 100, rfl, ?_, ?_⟩
        · show some _ = some _
          rw [List.nil_append, List.map_map]
          rfl
        · refine ⟨_, rfl, ?_⟩
          have e : rowB (.tup xs) = (xs.map fun d => textB d 100).all id := by
            unfold rowB
            dsimp only
            rw [decide_eq_true (by omega), Bool.true_and, List.all_map]
            rfl
          rw [e] at h1 h2
          cases hr : (xs.map fun d => textB d 100).all id with
          | true => exact iteF (h1 hr)
          | false => exact iteT ⟨_, rfl, h2 hr⟩
theorem rd_check : ∀ ds M Q E, sp_check ds M Q E → ds.length = 1 ∧ r_check_row E sp_tuple sp_text { nx := fun _ M' => Q .non M', rt := Q } (dstart N_check_row ds) M := by
  rintro _ M Q E (⟨a, rfl, ha, q⟩ | ⟨v, rfl, g, hb, e⟩)
  · exact ⟨rfl, check_core (row_gd ha) (fun _ => q) (fun h => by rw [row_ok ha] at h; cases h)⟩
  · exact ⟨rfl, check_core g (fun h => by rw [hb] at h; cases h) (fun _ => e)⟩
/-! ### common -/
theorem tupd_of {d : DL.D} {xs : List DL.D} {M : Mp} {Q : DK} (h : lstOf M d = some xs) (q : Q (.tup xs) M) : rTupD [d] M Q := by
  cases d <;> first | exact ⟨xs, h, q⟩ | cases h
def badA (v w : DL.D) (M : Mp) (E : DXK) : Prop := gd v = true ∧ rowB v = false ∧ E "BadRow" v M
def badB (v w : DL.D) (M : Mp) (E : DXK) : Prop := ∃ a, v = R a ∧ okRow a ∧ gd w = true ∧ rowB w = false ∧ E "BadRow" w M
def sp_common : DSp := fun ds M Q E => (∃ a b, ds = [R a, R b] ∧ okRow a ∧ okRow b ∧ Q (.tup (chD (grA a b))) M) ∨ ∃ v w, ds = [v, w] ∧ (badA v w M E ∨ badB v w M E)
theorem rd_common : ∀ ds M Q E, sp_common ds M Q E → ds.length = 2 ∧ r_common E sp_check sp_pairs { nx := fun _ M' => Q .non M', rt := Q } (dstart N_common ds) M := by
  rintro _ M Q E (⟨a, b, rfl, ha, hb, q⟩ | ⟨v, w, rfl, ⟨g, hb, e⟩ | ⟨a, rfl, ha, g, hb, e⟩⟩)
  · refine ⟨rfl, ?_⟩
    refine ⟨_, rfl, .inl ⟨a, rfl, ha, ?_⟩⟩
    refine ⟨_, rfl, .inl ⟨b, rfl, hb, ?_⟩⟩
    refine ⟨_, rfl, _, rfl, a, b, rfl, okRow_len ha, okRow_len hb, ?_⟩
    exact tupd_of (d := .lst _) rfl q
  · refine ⟨rfl, ?_⟩
    exact ⟨_, rfl, .inr ⟨v, rfl, g, hb, e⟩⟩
  · refine ⟨rfl, ?_⟩
    refine ⟨_, rfl, .inl ⟨a, rfl, ha, ?_⟩⟩
    exact ⟨_, rfl, .inr ⟨w, rfl, g, hb, e⟩⟩
theorem seq_ {t u : DTS} {D : DEnds} {ρ : Rho} {M : Mp} (h : t { D with nx := u D } ρ M) : dSeq t u D ρ M := h
theorem orT {t u : DTT} {x y : DTS} {D : DEnds} {ρ : Rho} {M : Mp} (A B : Bool) (ht : ∀ Q : Bool → Mp → Prop, Q A M → t ρ M Q) (hu : ∀ Q : Bool → Mp → Prop, Q B M → u ρ M Q) (h1 : (A || B) = true → x D ρ M) (h2 : (A || B) = false → y D ρ M) : dIfS (dOrT t u) x y D ρ M := by
  refine ht _ ?_
  cases A with
  | true => exact iteT (iteT (h1 rfl))
  | false =>
    refine iteF (hu _ ?_)
    cases B with
    | true => exact iteT (h1 rfl)
    | false => exact iteF (h2 rfl)
theorem gtI {x y : Int} (b : Bool) (h : decide (y < x) = b) {t u : DTE} {ρ : Rho} {M : Mp} (ht : ∀ Q : DK, Q (.int x) M → t ρ M Q) (hu : ∀ Q : DK, Q (.int y) M → u ρ M Q) : ∀ Q : Bool → Mp → Prop, Q b M → dB (dOp (rInt (fun _ _ => True) fun i j => .bl (decide (j < i))) t u) ρ M Q := by
  subst h
  exact fun Q q => ht _ (hu _ ⟨_, _, rfl, rfl, trivial, _, rfl, q⟩)
theorem ifT {c : DTT} {x y : DTS} {D : DEnds} {ρ : Rho} {M : Mp} (A : Bool) (ht : ∀ Q : Bool → Mp → Prop, Q A M → c ρ M Q) (h1 : A = true → x D ρ M) (h2 : A = false → y D ρ M) : dIfS c x y D ρ M := by
  refine ht _ ?_
  cases A with
  | true => exact iteT (h1 rfl)
  | false => exact iteF (h2 rfl)
/-! ### blocks_of -/
inductive Blk where
  | keep (n : Nat)
  | turn (x y : Row)
def blkD : Blk → DL.D
  | .keep n => .tup [.str "keep", .int (n : Nat)]
  | .turn x y => .tup [.str "turn", R x, R y]
/-- x[i:j] -/
def cutN {α : Type} (x : List α) (i j : Nat) : List α := (x.drop i).take (j - i)
theorem cut_nat {α : Type} (xs : List α) (k m : Nat) : DL.cutD xs (some (k : Int)) (some (m : Int)) = cutN xs k m := by
  unfold DL.cutD cutN
  rw [HT.sIx_nat, HT.sIx_nat]
  by_cases h3 : k ≤ xs.length
  · rw [Nat.min_eq_left h3]
    by_cases h2 : m ≤ xs.length
    · rw [Nat.min_eq_left h2]
    · rw [Nat.min_eq_right (by omega), List.take_of_length_le (by rw [List.length_drop]; omega), List.take_of_length_le (by rw [List.length_drop]; omega)]
  · rw [Nat.min_eq_right (show xs.length ≤ k by omega), List.drop_length, List.drop_of_length_le (by omega)]
    simp
theorem cutN_map {α β : Type} (f : α → β) (x : List α) (i j : Nat) : cutN (x.map f) i j = (cutN x i j).map f := by
  unfold cutN
  rw [← List.map_drop, ← List.map_take]
theorem cut_R (a : Row) (i j : Nat) : DL.D.tup (DL.cutD (a.map .str) (some (i : Int)) (some (j : Int))) = R (cutN a i j) := by
  rw [cut_nat, cutN_map]
theorem sl_R {a : Row} {i j : Nat} {p q : Int} {ρ : Rho} {M : Mp} {te tl th : DTE} {Q : DK} (ep : p = (i : Nat)) (eq : q = (j : Nat)) (he : ∀ Q : DK, Q (R a) M → te ρ M Q) (hl : ∀ Q : DK, Q (.int p) M → tl ρ M Q) (hh : ∀ Q : DK, Q (.int q) M → th ρ M Q) (k : Q (R (cutN a i j)) M) : dSl true te (dPart tl) (dPart th) ρ M Q := by
  subst ep eq
  refine he _ (hl _ ⟨_, rfl, hh _ ⟨_, rfl, ?_⟩⟩)
  show Q (.tup (DL.cutD (a.map .str) (some (i : Int)) (some (j : Int)))) M
  rw [cut_R]
  exact k
/-- found, here, there, kept -/
abbrev BSt := List Blk × Nat × Nat × Nat
def bstep (a b : Row) (s : BSt) (p : Nat × Nat) : BSt :=
  if s.2.1 < p.1 ∨ s.2.2.1 < p.2 then ((if 0 < s.2.2.2 then s.1 ++ [.keep s.2.2.2] else s.1) ++ [.turn (cutN a s.2.1 p.1) (cutN b s.2.2.1 p.2)], p.1 + 1, p.2 + 1, 1) else (s.1, p.1 + 1, p.2 + 1, s.2.2.2 + 1)
def brun (a b : Row) (c : Ch) : BSt := (c ++ [(a.length, b.length)]).foldl (bstep a b) ([], 0, 0, 0)
def blocks (a b : Row) : List Blk := if 1 < (brun a b (grA a b)).2.2.2 then (brun a b (grA a b)).1 ++ [.keep ((brun a b (grA a b)).2.2.2 - 1)] else (brun a b (grA a b)).1
def sp_blocks : DS1 := fun ds M Q => ∃ a b : Row, ds = [R a, R b] ∧ a.length ≤ 100 ∧ b.length ≤ 100 ∧ ∀ d M', SubM M M' → lstOf M' d = some ((blocks a b).map blkD) → Q d M'
theorem bst_len (a b : Row) : ∀ (c : Ch) (s : BSt), (c.foldl (bstep a b) s).1.length ≤ s.1.length + 2 * c.length
  | [], s => by simp
  | p :: c, s => by
    have h := bst_len a b c (bstep a b s p)
    rw [List.foldl_cons]
    refine Nat.le_trans h ?_
    have : (bstep a b s p).1.length ≤ s.1.length + 2 := by
      unfold bstep
      split <;> (try split) <;> simp
    simp only [List.length_cons]
    omega
theorem rd_blocks : ∀ ds M Q, sp_blocks ds M Q → ds.length = 2 ∧ r_blocks_of sp_pairs { nx := fun _ M' => Q .non M', rt := Q } (dstart N_blocks_of ds) M := by
  rintro _ M Q ⟨a, b, rfl, la, lb, q⟩
  refine ⟨rfl, ?_⟩
  refine ⟨Nat.zero_le _, fun p hp => ?_⟩
  refine ⟨small (by simp), _, rfl, rfl, _, _, rfl, _, _, rfl, _, _, rfl, _, _, rfl, rfl, ?_⟩
  have glen := (gr_ch (a := a) (b := b) (i := 0) (j := 0) rfl).2
  have l0 := lc_le a b 0 0
  have gl : (grA a b).length ≤ 100 := by unfold grA; omega
  refine ⟨_, rfl, _, rfl, a, b, rfl, la, lb, ?_⟩
  refine ⟨_, rfl, ?_⟩
  refine ⟨_, rfl, _, rfl, ?_⟩
  refine ⟨_, rfl, _, rfl, ?_⟩
  refine ⟨small (by simp), small (by simp [chD]; omega), newTr ?_⟩
  rw [R_len, R_len]
  have el : chD (grA a b) ++ [DL.D.tup [.int (a.length : Nat), .int (b.length : Nat)]] = (grA a b ++ [(a.length, b.length)]).map pv := by
    rw [List.map_append]; rfl
  rw [el]
  refine for_pre pv _ (fun pre ρ M' => ∃ f i j k x6 x7, ρ = [some (R a), some (R b), some (.ref p), some (.int (i : Nat)), some (.int (j : Nat)), some (.int (k : Nat)), x6, x7] ∧ M' = mu M p (.lst (f.map blkD)) ∧ pre.foldl (bstep a b) ([], 0, 0, 0) = (f, i, j, k)) (fun _ _ _ _ => trivial) ?_ ?_ _ [] _ _ rfl ⟨[], 0, 0, 0, _, _, rfl, rfl, rfl⟩
  · rintro pre ⟨u, v⟩ suf e ρ M' ⟨f, i, j, k, x6, x7, rfl, rfl, ef⟩ N next
    have fl : f.length ≤ 500 := by
      have := bst_len a b pre ([], 0, 0, 0)
      rw [ef] at this
      have e2 := congrArg List.length e
      simp at e2 this
      omega
    have iso : ∀ o, (lstOf (mu M p (.lst o)) (.ref p)).isSome = true := fun o => by show (mol (mu M p _ p)).isSome = true; rw [mu_same]; rfl
    have few : ∀ n : Nat, n ≤ 1000 → n < sizeLine := fun n h => Nat.lt_of_lt_of_le (show n < 100000 by omega) (small (Nat.le_refl _))
    have nx2 : ∀ (s : BSt), bstep a b (f, i, j, k) (u, v) = s → ∀ x6 x7, N [some (R a), some (R b), some (.ref p), some (.int (s.2.1 : Nat)), some (.int (s.2.2.1 : Nat)), some (.int (s.2.2.2 : Nat)), x6, x7] (mu M p (.lst (s.1.map blkD))) := by
      rintro ⟨f', i', j', k'⟩ es x6 x7
      refine next _ _ ⟨f', i', j', k', _, _, rfl, rfl, ?_⟩
      rw [List.foldl_append, ef]
      exact es
    refine ⟨_, rfl, rfl, _, _, rfl, _, _, rfl, rfl, ?_⟩
    dsimp only
    have ci : ∀ x y : Nat, decide ((x : Int) < (y : Int)) = decide (x < y) := fun x y => by
      by_cases h : x < y
      · rw [decide_eq_true h, decide_eq_true (by omega)]
      · rw [decide_eq_false h, decide_eq_false (by omega)]
    refine seq_ (orT (decide (i < u)) (decide (j < v)) (gtI _ (ci i u) (fun Q q => ⟨_, rfl, q⟩) (fun Q q => ⟨_, rfl, q⟩)) (gtI _ (ci j v) (fun Q q => ⟨_, rfl, q⟩) (fun Q q => ⟨_, rfl, q⟩)) (fun c => ?_) fun c => ?_)
    · have c' : i < u ∨ j < v := by simpa using c
      have es : bstep a b (f, i, j, k) (u, v) = ((if 0 < k then f ++ [.keep k] else f) ++ [.turn (cutN a i u) (cutN b j v)], u + 1, v + 1, 1) := by
        unfold bstep; rw [if_pos c']
      have n2 := nx2 _ es
      have push : ∀ g : List Blk, g.length ≤ 600 → (∀ x6 x7, N [some (R a), some (R b), some (.ref p), some (.int ((u + 1 : Nat) : Int)), some (.int ((v + 1 : Nat) : Int)), some (.int ((1 : Nat) : Int)), x6, x7] (mu M p (.lst ((g ++ [Blk.turn (cutN a i u) (cutN b j v)]).map blkD)))) →
          dSeq (dDrop (dAppend (dSlot 2) (dTup (dCons (dC v_TURN) (dCons (dSl true (dSlot 0) (dPart (dSlot 3)) (dPart (dSlot 6))) (dCons (dSl true (dSlot 1) (dPart (dSlot 4)) (dPart (dSlot 7))) dNil)))))) (dAsg (dC (.int 0)) (dgName 5))
          { nx := fun ρ M => dPar3 5 3 4 (dCons (dOp (rAddD true) (dSlot 5) (dC (.int 1))) (dCons (dOp (rAddD true) (dSlot 6) (dC (.int 1))) (dCons (dOp (rAddD true) (dSlot 7) (dC (.int 1))) dNil))) { nx := N, rt := Q, ct := N, bk := fun _ _ => True } ρ M, rt := Q, ct := N, bk := fun _ _ => True }
          [some (R a), some (R b), some (.ref p), some (.int (i : Nat)), some (.int (j : Nat)), some (.int (k : Nat)), some (.int (u : Nat)), some (.int (v : Nat))] (mu M p (.lst (g.map blkD))) := by
        intro g hg h
        refine ⟨_, rfl, iso _, ?_⟩
        refine sl_R (a := a) (i := i) (j := u) rfl rfl (fun Q q => ⟨_, rfl, q⟩) (fun Q q => ⟨_, rfl, q⟩) (fun Q q => ⟨_, rfl, q⟩) ?_
        refine sl_R (a := b) (i := j) (j := v) rfl rfl (fun Q q => ⟨_, rfl, q⟩) (fun Q q => ⟨_, rfl, q⟩) (fun Q q => ⟨_, rfl, q⟩) ?_
        refine ⟨small (by simp), p, _, _, rfl, rfl, mu_same, few _ (by simp; omega), ?_⟩
        rw [mu_mu]
        refine ⟨_, rfl, _, rfl, _, rfl, _, _, _, rfl, ?_⟩
        have := h (some (.int (u : Nat))) (some (.int (v : Nat)))
        rw [List.map_append] at this
        exact this
      refine seq_ (ifT (decide (0 < k)) (gtI _ (ci 0 k) (fun Q q => ⟨_, rfl, q⟩) (fun Q q => q)) (fun c => ?_) fun c => ?_)
      · have c0 : 0 < k := by simpa using c
        rw [if_pos c0] at n2
        refine ⟨_, rfl, iso _, _, rfl, small (by simp), p, _, _, rfl, rfl, mu_same, few _ (by simp; omega), ?_⟩
        rw [mu_mu]
        have := push (f ++ [.keep k]) (by simp; omega) n2
        rw [List.map_append] at this
        exact this
      · have c0 : ¬ 0 < k := by simpa using c
        rw [if_neg c0] at n2
        exact push f (by omega) n2
    · have c' : ¬ (i < u ∨ j < v) := by simpa using c
      have es : bstep a b (f, i, j, k) (u, v) = (f, u + 1, v + 1, k + 1) := by
        unfold bstep; rw [if_neg c']
      refine ⟨_, rfl, _, rfl, _, rfl, _, _, _, rfl, ?_⟩
      exact nx2 _ es _ _
  · rintro ρ M' ⟨f, i, j, k, x6, x7, rfl, rfl, ef⟩
    rw [List.nil_append] at ef
    have eb : brun a b (grA a b) = (f, i, j, k) := ef
    have sub : ∀ o, SubM M (mu M p o) := fun o => (SubM.refl M).mu hp o
    refine ⟨_, rfl, _, _, rfl, rfl, trivial, _, rfl, ?_⟩
    have fl : f.length ≤ 500 := by
      have := bst_len a b (grA a b ++ [(a.length, b.length)]) ([], 0, 0, 0)
      rw [ef] at this
      simp at this
      omega
    by_cases h : 1 < k
    · rw [decide_eq_true (by omega)]
      refine iteT ?_
      refine ⟨_, rfl, f.map blkD, (show mol (mu M p _ p) = _ by rw [mu_same]; rfl), _, rfl, _, _, rfl, rfl, trivial, small (by simp), small (by simp; omega), newTr ?_⟩
      refine q _ _ (sub _) ?_
      unfold blocks
      rw [eb]
      dsimp only
      rw [if_pos h, List.map_append]
      show some _ = some _
      have : ((k - 1 : Nat) : Int) = (k : Int) - 1 := by omega
      show some (_ ++ [DL.D.tup [.str "keep", .int ((k : Int) - 1)]]) = some (_ ++ [DL.D.tup [.str "keep", .int ((k - 1 : Nat) : Int)]])
      rw [this]
    · rw [decide_eq_false (by omega)]
      refine iteF ?_
      refine ⟨_, rfl, ?_⟩
      refine q _ _ (sub _) ?_
      unfold blocks
      rw [eb]
      dsimp only
      rw [if_neg h]
      show mol (mu M p _ p) = _
      rw [mu_same]; rfl
def sp_changes0 : DSp := fun ds M Q E => (∃ a b, ds = [R a, R b] ∧ okRow a ∧ okRow b ∧ ∀ M', SubM M M' → Q (.tup ((blocks a b).map blkD)) M') ∨ ∃ v w, ds = [v, w] ∧ (badA v w M E ∨ badB v w M E)
def sp_changes : DSp := fun ds M Q E => (∃ a b, ds = [R a, R b] ∧ okRow a ∧ okRow b ∧ Q (.tup ((blocks a b).map blkD)) M) ∨ ∃ v w, ds = [v, w] ∧ (badA v w M E ∨ badB v w M E)
theorem wk_changes : ∀ ds M Q E, sp_changes ds M Q E → sp_changes0 ds M (fun d M1 => ∃ M2, SubM M2 M1 ∧ Q d M2) fun x v M1 => ∃ M2, SubM M2 M1 ∧ E x v M2 := by
  rintro ds M Q E (⟨a, b, e, ha, hb, q⟩ | ⟨v, w, rfl, ⟨g, hb, e⟩ | ⟨a, rfl, ha, g, hb, e⟩⟩)
  · exact .inl ⟨a, b, e, ha, hb, fun _ s => ⟨M, s, q⟩⟩
  · exact .inr ⟨v, w, rfl, .inl ⟨g, hb, M, SubM.refl M, e⟩⟩
  · exact .inr ⟨_, w, rfl, .inr ⟨a, rfl, ha, g, hb, M, SubM.refl M, e⟩⟩
theorem rd_changes : ∀ ds M Q E, sp_changes0 ds M Q E → ds.length = 2 ∧ r_changes E sp_check sp_blocks { nx := fun _ M' => Q .non M', rt := Q } (dstart N_changes ds) M := by
  rintro _ M Q E (⟨a, b, rfl, ha, hb, q⟩ | ⟨v, w, rfl, ⟨g, hb, e⟩ | ⟨a, rfl, ha, g, hb, e⟩⟩)
  · refine ⟨rfl, ?_⟩
    refine ⟨_, rfl, .inl ⟨a, rfl, ha, ?_⟩⟩
    refine ⟨_, rfl, .inl ⟨b, rfl, hb, ?_⟩⟩
    refine ⟨_, rfl, _, rfl, a, b, rfl, okRow_len ha, okRow_len hb, fun d M' s h => ?_⟩
    exact tupd_of h (q M' s)
  · refine ⟨rfl, ?_⟩
    exact ⟨_, rfl, .inr ⟨v, rfl, g, hb, e⟩⟩
  · refine ⟨rfl, ?_⟩
    refine ⟨_, rfl, .inl ⟨a, rfl, ha, ?_⟩⟩
    exact ⟨_, rfl, .inr ⟨w, rfl, g, hb, e⟩⟩
end K90

set_option maxHeartbeats 4000000
/-! K90g: is_block, is_changes; what changes tell. -/
namespace K90
open PySem PySem.Spec DL KB
open L2 (atI ixN)
open PyProof.Rows hiding St signs
variable {a b : Row}
/-! ### rows compared -/
theorem pyAll_dat {α : Type} [DecidableEq α] [PySem.W.Datum α] (f : α → DL.D) (hf : ∀ x, (f x).py = some (PySem.W.Datum.toD x)) : ∀ xs : List α, pyAll (xs.map f) = some (xs.map PySem.W.Datum.toD)
  | [] => rfl
  | x :: xs => by
    rw [List.map_cons, pyAll, hf, pyAll_dat f hf xs]
    rfl
theorem eq_tups {α : Type} [DecidableEq α] [PySem.W.Datum α] (f : α → DL.D) (hf : ∀ x, (f x).py = some (PySem.W.Datum.toD x)) {neg : Bool} {xs ys : List α} {M : Mp} {Q : DK} (gx : gd (.tup (xs.map f)) = true) (gy : gd (.tup (ys.map f)) = true) (dx : dep (.tup (xs.map f)) ≤ 60) (dy : dep (.tup (ys.map f)) ≤ 60)
    (q : Q (.bl (if neg then !decide (xs = ys) else decide (xs = ys))) M) : rEqD2 neg (.tup (xs.map f)) (.tup (ys.map f)) M Q := by
  obtain ⟨px, ex, _, lx, tx⟩ := py_gd _ gx
  obtain ⟨py, ey, _, ly, ty⟩ := py_gd _ gy
  have e1 : px = .tuple (xs.map PySem.W.Datum.toD) := by
    have h : D.py (.tup (xs.map f)) = _ := ex
    rw [D.py, pyAll_dat f hf] at h
    cases h; rfl
  have e2 : py = .tuple (ys.map PySem.W.Datum.toD) := by
    have h : D.py (.tup (ys.map f)) = _ := ey
    rw [D.py, pyAll_dat f hf] at h
    cases h; rfl
  refine ⟨px, py, ex, ey, ?_, ?_, ?_⟩
  · unfold SeqAt.shaped; simp only [lx, tx, Bool.true_and, decide_eq_true_eq]; omega
  · unfold SeqAt.shaped; simp only [ly, ty, Bool.true_and, decide_eq_true_eq]; omega
  · have : PyData.eqv px py = decide (xs = ys) := by
      rw [e1, e2, PyData.eqv]
      exact PySem.W.eqvAll_map xs ys
    rw [this]
    exact q
theorem row_dep (a : Row) : dep (R a) ≤ 1 := by
  unfold dep
  refine Nat.succ_le_succ (depAll_le.mpr fun x hx => ?_)
  obtain ⟨y, _, rfl⟩ := List.mem_map.mp hx
  exact Nat.le_refl _
/-- texts of a bounded size -/
def smRow (a : Row) : Prop := a.length ≤ 100000 ∧ ∀ x ∈ a, textB (.str x) 100 = true
theorem okRow.sm {a : Row} (h : okRow a) : smRow a := ⟨Nat.le_trans h.1 (by omega), h.2⟩
theorem smRow.gd {a : Row} (h : smRow a) : gd (R a) = true := gd_tup.mpr ⟨by rw [R_len]; exact h.1, fun y hy => by
  obtain ⟨x, hx, rfl⟩ := List.mem_map.mp hy
  exact tx_gd (h.2 x hx)⟩
theorem smRow.cut {a : Row} (h : smRow a) (i j : Nat) : smRow (cutN a i j) := ⟨Nat.le_trans (by unfold cutN; rw [List.length_take, List.length_drop]; omega) h.1, fun x hx => h.2 x (List.mem_of_mem_drop (List.mem_of_mem_take hx))⟩
theorem eq_rowsR {neg : Bool} {x y : Row} {M : Mp} {Q : DK} (hx : smRow x) (hy : smRow y) (q : Q (.bl (if neg then !decide (x = y) else decide (x = y))) M) : rEqD2 neg (R x) (R y) M Q :=
  eq_tups .str (fun _ => rfl) hx.gd hy.gd (Nat.le_trans (row_dep x) (by omega)) (Nat.le_trans (row_dep y) (by omega)) q
/-! ### what is told at once, the memory as it was -/
abbrev TV (t : DTE) (ρ : Rho) (M : Mp) (d : DL.D) : Prop := ∀ Q : DK, Q d M → t ρ M Q
abbrev TB (t : DTT) (ρ : Rho) (M : Mp) (b : Bool) : Prop := ∀ Q : Bool → Mp → Prop, Q b M → t ρ M Q
section
variable {t u : DTE} {ρ : Rho} {M : Mp}
theorem tv_slot {i : Nat} {d : DL.D} (h : ρ[i]? = some (some d)) : TV (dSlot i) ρ M d := fun _ q => ⟨d, h, q⟩
theorem tv_c {d : DL.D} : TV (dC d) ρ M d := fun _ q => q
theorem tb_b {b : Bool} (h : TV t ρ M (.bl b)) : TB (dB t) ρ M b := fun _ q => h _ ⟨_, rfl, q⟩
theorem tb_not {c : DTT} {b : Bool} (h : TB c ρ M b) : TB (dNotT c) ρ M (!b) := fun _ q => h _ q
theorem tb_or {c d : DTT} {A B : Bool} (h : TB c ρ M A) (k : A = false → TB d ρ M B) : TB (dOrT c d) ρ M (A || B) := fun Q q => h _ (by
  cases A with
  | true => exact iteT q
  | false => exact iteF (k rfl _ q))
theorem tb_and {c d : DTT} {A B : Bool} (h : TB c ρ M A) (k : A = true → TB d ρ M B) : TB (dAndT c d) ρ M (A && B) := fun Q q => h _ (by
  cases A with
  | true => exact iteT (k rfl _ q)
  | false => exact iteF q)
theorem tv_and {A B : Bool} (h : TV t ρ M (.bl A)) (k : A = true → TV u ρ M (.bl B)) : TV (dAndV t u) ρ M (.bl (A && B)) := fun Q q => h _ ⟨_, rfl, by
  cases A with
  | true => exact iteT (k rfl _ q)
  | false => exact iteF q⟩
theorem tv_not {A : Bool} (h : TV t ρ M (.bl A)) : TV (dNotV t) ρ M (.bl (!A)) := fun Q q => h _ ⟨_, rfl, q⟩
theorem tv_if {c : DTT} {A : Bool} {d : DL.D} (h : TB c ρ M A) (k1 : A = true → TV t ρ M d) (k2 : A = false → TV u ρ M d) : TV (dIf c t u) ρ M d := fun Q q => h _ (by
  cases A with
  | true => exact iteT (k1 rfl _ q)
  | false => exact iteF (k2 rfl _ q))
theorem if_s {c : DTT} {x y : DTS} {D : DEnds} {A : Bool} (h : TB c ρ M A) (h1 : A = true → x D ρ M) (h2 : A = false → y D ρ M) : dIfS c x y D ρ M := h _ (by
  cases A with
  | true => exact iteT (h1 rfl)
  | false => exact iteF (h2 rfl))
theorem next_ {D : DEnds} (h : D.nx ρ M) : dNext D ρ M := h
theorem ret_ {D : DEnds} {d : DL.D} (h : TV t ρ M d) (q : D.rt d M) : dRet t D ρ M := h _ q
theorem asg_ {D : DEnds} {d : DL.D} {g : DTG} (h : TV t ρ M d) (q : g d ρ M D.nx) : dAsg t g D ρ M := h _ q
theorem tv_add {x y : Int} {fz : Bool} (h : TV t ρ M (.int x)) (k : TV u ρ M (.int y)) : TV (dOp (rAddD fz) t u) ρ M (.int (x + y)) := fun Q q => h _ (k _ q)
theorem tv_sub {x y : Int} (h : TV t ρ M (.int x)) (k : TV u ρ M (.int y)) : TV (dOp (rInt (fun _ _ => True) fun i j => .int (i - j)) t u) ρ M (.int (x - y)) := fun Q q => h _ (k _ ⟨_, _, rfl, rfl, trivial, q⟩)
theorem tv_gt {x y : Int} (h : TV t ρ M (.int x)) (k : TV u ρ M (.int y)) : TV (dOp (rInt (fun _ _ => True) fun i j => .bl (decide (j < i))) t u) ρ M (.bl (decide (y < x))) := fun Q q => h _ (k _ ⟨_, _, rfl, rfl, trivial, q⟩)
theorem tv_le {x y : Int} (h : TV t ρ M (.int x)) (k : TV u ρ M (.int y)) : TV (dOp (rInt (fun _ _ => True) fun i j => .bl (decide (i ≤ j))) t u) ρ M (.bl (decide (x ≤ y))) := fun Q q => h _ (k _ ⟨_, _, rfl, rfl, trivial, q⟩)
theorem tv_lt {x y : Int} (h : TV t ρ M (.int x)) (k : TV u ρ M (.int y)) : TV (dOp rLtD t u) ρ M (.bl (decide (x < y))) := fun Q q => h _ (k _ q)
theorem tv_eqS {x y : Str} (h : TV t ρ M (.str x)) (k : TV u ρ M (.str y)) : TV (dOp (rEqD2 false) t u) ρ M (.bl (decide (x = y))) := fun Q q => h _ (k _ q)
theorem tv_neS {x y : Str} (h : TV t ρ M (.str x)) (k : TV u ρ M (.str y)) : TV (dOp (rEqD2 true) t u) ρ M (.bl (!decide (x = y))) := fun Q q => h _ (k _ q)
theorem tv_eqI {x y : Int} (h : TV t ρ M (.int x)) (k : TV u ρ M (.int y)) : TV (dOp (rEqD2 false) t u) ρ M (.bl (decide (x = y))) := fun Q q => h _ (k _ q)
theorem tv_neI {x y : Int} (h : TV t ρ M (.int x)) (k : TV u ρ M (.int y)) : TV (dOp (rEqD2 true) t u) ρ M (.bl (!decide (x = y))) := fun Q q => h _ (k _ q)
theorem tv_eqR {x y : Row} (hx : smRow x) (hy : smRow y) (h : TV t ρ M (R x)) (k : TV u ρ M (R y)) : TV (dOp (rEqD2 false) t u) ρ M (.bl (decide (x = y))) := fun Q q => h _ (k _ (eq_rowsR hx hy q))
theorem tv_neR {x y : Row} (hx : smRow x) (hy : smRow y) (h : TV t ρ M (R x)) (k : TV u ρ M (R y)) : TV (dOp (rEqD2 true) t u) ρ M (.bl (!decide (x = y))) := fun Q q => h _ (k _ (eq_rowsR hx hy q))
theorem tv_ix {xs : List DL.D} {i : Int} {d : DL.D} (e : atI xs i = some d) (h : TV t ρ M (.tup xs)) (k : TV u ρ M (.int i)) : TV (dOp rIxD t u) ρ M d := fun Q q => h _ (k _ ⟨_, _, rfl, e, q⟩)
theorem tv_len {xs : List DL.D} (h : TV t ρ M (.tup xs)) : TV (dCB DL.rLen (dCons t dNil)) ρ M (.int xs.length) := fun Q q => h _ ⟨_, rfl, q⟩
theorem tv_lenR {x : Row} (h : TV t ρ M (R x)) : TV (dCB DL.rLen (dCons t dNil)) ρ M (.int x.length) := fun Q q => h _ ⟨_, rfl, by rw [R_len]; exact q⟩
theorem tv_lenS {x : Str} (hx : x.cps.size ≤ 100000) (h : TV t ρ M (.str x)) : TV (dCB DL.rLen (dCons t dNil)) ρ M (.int x.length) := fun Q q => h _ ⟨small hx, q⟩
theorem tv_slR {x : Row} {i j : Nat} {p q : Int} {tl th : DTE} (ep : p = (i : Nat)) (eq : q = (j : Nat)) (he : TV t ρ M (R x)) (hl : TV tl ρ M (.int p)) (hh : TV th ρ M (.int q)) : TV (dSl true t (dPart tl) (dPart th)) ρ M (R (cutN x i j)) := fun _ k => sl_R ep eq he hl hh k
/-- all(.. for x in a tuple) -/
theorem tv_all {xs : List DL.D} {p : DL.D → Bool} {i : Nat} {te body : DTE} (he : TV te ρ M (.tup xs)) (hl : xs.length ≤ 100000) (hb : ∀ x ∈ xs, TV body ((dwipe ρ [i]).set i (some x)) M (.bl (p x))) : TV (dCB rAllD (dCons (dLc true (dIt te) (dgName i) dYes body [i]) dNil)) ρ M (.bl (xs.all p)) := by
  intro Q q
  refine he _ ?_
  refine lc_map (fun d => .bl (p d)) (by exact trivial) xs [] (fun x hx K1 K2 k => hb x hx K1 k) (small (by simpa using hl)) ?_
  refine newTr ⟨_, xs.map p, rfl, ?_, ?_⟩
  · show some _ = some _
    rw [List.nil_append, List.map_map]
    rfl
  · rw [List.all_map]
    exact q
end
/-! ### kinds -/
def isS : DL.D → Bool | .str _ => true | _ => false
def isT : DL.D → Bool | .tup _ => true | _ => false
def isI : DL.D → Bool | .int _ => true | .bl _ => true | _ => false
def isBl : DL.D → Bool | .bl _ => true | _ => false
section
variable {t : DTE} {ρ : Rho} {M : Mp} {v : DL.D}
theorem tv_isS (g : gd v = true) (h : TV t ρ M v) : TV (dIsi "str" t) ρ M (.bl (isS v)) := fun Q q => h _ (by
  cases v <;> first | exact ⟨_, rfl, q⟩ | (simp [gd] at g; done))
theorem tv_isT (g : gd v = true) (h : TV t ρ M v) : TV (dIsi "tuple" t) ρ M (.bl (isT v)) := fun Q q => h _ (by
  cases v <;> first | exact ⟨_, rfl, q⟩ | (simp [gd] at g; done))
theorem tv_isI (g : gd v = true) (h : TV t ρ M v) : TV (dIsi "int" t) ρ M (.bl (isI v)) := fun Q q => h _ (by
  cases v <;> first | exact ⟨_, rfl, q⟩ | (simp [gd] at g; done))
theorem tv_isB (g : gd v = true) (h : TV t ρ M v) : TV (dIsi "bool" t) ρ M (.bl (isBl v)) := fun Q q => h _ (by
  cases v <;> first | exact ⟨_, rfl, q⟩ | (simp [gd] at g; done))
theorem tv_tuple {lo hi : Int} (g : gd v = true) {t1 t2 : DTE} (h : TV t ρ M v) (h1 : TV t1 ρ M (.int lo)) (h2 : TV t2 ρ M (.int hi)) : TV (dCall1 sp_tuple (dCons t (dCons t1 (dCons t2 dNil)))) ρ M (.bl (tupB v lo hi)) := fun Q q => h _ (h1 _ (h2 _ ⟨v, lo, hi, rfl, gd_plain g, q⟩))
theorem tv_text {lo : Int} (g : gd v = true) {t1 : DTE} (h : TV t ρ M v) (h1 : TV t1 ρ M (.int lo)) : TV (dCall1 sp_text (dCons t (dCons t1 dNil))) ρ M (.bl (textB v lo)) := fun Q q => h _ (h1 _ ⟨v, lo, rfl, gd_plain g, q⟩)
end
/-! ### a block, as data -/
def strOf : DL.D → Option Str | .str x => some x | _ => none
def rowOf : DL.D → Row | .tup xs => xs.filterMap strOf | _ => []
theorem rowOf_R (a : Row) : rowOf (R a) = a := by
  show (a.map DL.D.str).filterMap strOf = a
  rw [List.filterMap_map]
  exact List.filterMap_some
def getBlk : DL.D → Option Blk
  | .tup [.str s, .int n] => if s = "keep" ∧ 0 < n then some (.keep n.toNat) else none
  | .tup [.str s, x, y] => if s = "turn" ∧ rowB x = true ∧ rowB y = true then some (.turn (rowOf x) (rowOf y)) else none
  | _ => none
def okBlk : Blk → Prop
  | .keep n => 0 < n
  | .turn x y => okRow x ∧ okRow y
theorem get_of {v : DL.D} {k : Blk} (h : getBlk v = some k) : v = blkD k ∧ okBlk k := by
  unfold getBlk at h
  split at h
  · rename_i s n
    split at h
    · rename_i c
      obtain ⟨rfl, c⟩ := c
      cases h
      refine ⟨?_, ?_⟩
      · show _ = DL.D.tup [.str "keep", .int ((n.toNat : Nat) : Int)]
        rw [show ((n.toNat : Nat) : Int) = n by omega]
      · show 0 < n.toNat
        omega
    · cases h
  · rename_i s x y
    split at h
    · rename_i c
      obtain ⟨rfl, c1, c2⟩ := c
      cases h
      obtain ⟨u, rfl, hu⟩ := row_of c1
      obtain ⟨v, rfl, hv⟩ := row_of c2
      rw [rowOf_R, rowOf_R]
      exact ⟨rfl, hu, hv⟩
    · cases h
  · cases h
theorem get_blk {k : Blk} (h : okBlk k) : getBlk (blkD k) = some k := by
  cases k with
  | keep n =>
    show (if _ then _ else _) = _
    rw [if_pos ⟨rfl, show (0 : Int) < ((n : Nat) : Int) by have : 0 < n := h; omega⟩]
    simp
  | turn x y =>
    show (if _ then _ else _) = _
    rw [if_pos ⟨rfl, row_ok h.1, row_ok h.2⟩, rowOf_R, rowOf_R]
/-! ### is_block -/
def sp_blk : DS1 := fun ds M Q => ∃ v, ds = [v] ∧ gd v = true ∧ Q (.bl (getBlk v).isSome) M
def posD : DL.D → Bool | .int n => decide (0 < n) | _ => false
theorem tupB_len {xs : List DL.D} {lo hi : Int} (h : tupB (.tup xs) lo hi = true) : lo ≤ xs.length ∧ (xs.length : Int) ≤ hi := by
  simpa [tupB] using h
theorem tupB_tup {v : DL.D} {lo hi : Int} (h : tupB v lo hi = true) : ∃ xs, v = .tup xs := by
  cases v <;> simp [tupB] at h
  exact ⟨_, rfl⟩
theorem rowB_parts (x : DL.D) : rowB x = (tupB x 0 40 && match x with | .tup xs => xs.all fun d => textB d 100 | _ => false) := by
  cases x <;> first | (simp [rowB, tupB]; done) | skip
  rename_i xs
  unfold rowB tupB
  dsimp only
  have : decide (xs.length ≤ 40) = (decide ((0 : Int) ≤ xs.length) && decide ((xs.length : Int) ≤ 40)) := by
    rw [decide_eq_true (show (0 : Int) ≤ xs.length by omega), Bool.true_and]
    exact decide_eq_decide.mpr (by omega)
  rw [this]
/-- all texts of two rows -/
theorem rd_blk : ∀ ds M Q, sp_blk ds M Q → ds.length = 1 ∧ r_is_block sp_tuple sp_text { nx := fun _ M' => Q .non M', rt := Q } (dstart N_is_block ds) M := by
  rintro _ M Q ⟨v, rfl, g, q⟩
  refine ⟨rfl, ?_⟩
  have s0 : TV (dSlot 0) (dstart N_is_block [v]) M v := tv_slot rfl
  refine seq_ (if_s (A := !tupB v 2 3 || !(match v with | .tup (x :: _) => isS x | _ => false)) (tb_or (tb_not (tb_b (tv_tuple g s0 tv_c tv_c))) fun ht => ?_) (fun hc => ?_) fun hc => ?_)
  · rw [Bool.not_eq_false'] at ht
    obtain ⟨xs, rfl⟩ := tupB_tup ht
    obtain ⟨l1, l2⟩ := tupB_len ht
    match xs, l1 with
    | [], h => simp at h
    | x :: r, _ => exact tb_not (tb_b (tv_isS ((gd_tup.mp g).2 x (by simp)) (tv_ix ix0 s0 tv_c)))
  · refine ret_ tv_c ?_
    have : (getBlk v).isSome = false := by
      unfold getBlk
      split
      · simp [tupB, isS] at hc
      · simp [tupB, isS] at hc
      · rfl
    rw [this] at q
    exact q
  · rw [Bool.or_eq_false_iff, Bool.not_eq_false', Bool.not_eq_false'] at hc
    obtain ⟨ht, hs⟩ := hc
    obtain ⟨xs, rfl⟩ := tupB_tup ht
    obtain ⟨l1, l2⟩ := tupB_len ht
    obtain ⟨x, y, r, rfl⟩ : ∃ x y r, xs = x :: y :: r := by
      match xs, l1 with
      | [], h => simp at h
      | [_], h => simp at h
      | x :: y :: r, _ => exact ⟨x, y, r, rfl⟩
    have gi := (gd_tup.mp g).2
    have gy := gi y (by simp)
    cases x <;> simp [isS] at hs
    rename_i s
    refine seq_ (if_s (tb_b (tv_eqS (tv_ix ix0 s0 tv_c) tv_c)) (fun hk => ?_) fun hk => ?_)
    · rw [decide_eq_true_eq] at hk
      subst hk
      refine ret_ (tv_and (tv_eqI (tv_len s0) tv_c) fun h2 => tv_and (tv_isI gy (tv_ix ix1 s0 tv_c)) fun hi => tv_and (B := posD y) (tv_not (tv_isB gy (tv_ix ix1 s0 tv_c))) fun hb => ?_) ?_
      · cases y <;> simp [isI, isBl] at hi hb
        exact tv_gt (tv_ix ix1 s0 tv_c) tv_c
      · have e : (getBlk (.tup (.str "keep" :: y :: r))).isSome = (decide (((DL.D.str "keep" :: y :: r).length : Int) = 2) && (isI y && (!isBl y && posD y))) := by
          cases r with
          | nil =>
            cases y <;> simp [getBlk, isI, isBl, posD]
            rename_i n
            by_cases h : 0 < n
            · simp [h]
            · simp [h]
          | cons z r =>
            have : ¬ (((DL.D.str "keep" :: y :: z :: r).length : Int) = 2) := by simp; omega
            rw [decide_eq_false this, Bool.false_and]
            cases r with
            | nil =>
              simp only [getBlk]
              rw [if_neg (fun h => by have := h.1; revert this; decide)]
              rfl
            | cons _ _ => simp [getBlk]
        rw [e] at q
        exact q
    · rw [decide_eq_false_iff_not] at hk
      have len : ((DL.D.str s :: y :: r).length : Int) = 2 + r.length := by simp; omega
      refine seq_ (if_s (A := !decide (s = "turn") || (!decide (((DL.D.str s :: y :: r).length : Int) = 3) || !((y :: r).all fun d => tupB d 0 40))) (tb_or (tb_b (tv_neS (tv_ix ix0 s0 tv_c) tv_c)) fun _ => tb_or (tb_b (tv_neI (tv_len s0) tv_c)) fun _ => tb_not (tb_b (tv_all (xs := y :: r) ?_ ?_ fun d hd => ?_))) (fun hc => ?_) fun hc => ?_)
      · intro Q q
        refine s0 _ ⟨1, rfl, ?_⟩
        show Q (.tup (DL.cutD (DL.D.str s :: y :: r) (some 1) none)) M
        rw [cut1]
        exact q
      · simp at l2 ⊢; omega
      · exact tv_tuple (gi d (List.mem_cons_of_mem _ hd)) (tv_slot rfl) tv_c tv_c
      · refine ret_ tv_c ?_
        have : (getBlk (.tup (.str s :: y :: r))).isSome = false := by
          cases r with
          | nil =>
            cases y <;> simp [getBlk]
            exact fun h => absurd h hk
          | cons z r =>
            cases r with
            | nil =>
              simp only [getBlk]
              split
              · rename_i c
                obtain ⟨c1, c2, c3⟩ := c
                rw [rowB_parts, Bool.and_eq_true] at c2 c3
                simp [c1, c2.1, c3.1] at hc
              · rfl
            | cons _ _ => simp [getBlk]
        rw [this] at q
        exact q
      · simp only [Bool.or_eq_false_iff, Bool.not_eq_false', decide_eq_true_eq] at hc
        obtain ⟨c1, c2, c3⟩ := hc
        subst c1
        obtain ⟨z, rfl⟩ : ∃ z, r = [z] := by
          rw [len] at c2
          match r, c2 with
          | [], h => simp at h
          | [z], _ => exact ⟨z, rfl⟩
          | _ :: _ :: _, h => simp at h; omega
        have gz := gi z (by simp)
        rw [List.all_cons, List.all_cons, List.all_nil, Bool.and_true, Bool.and_eq_true] at c3
        obtain ⟨ys, rfl⟩ := tupB_tup c3.1
        obtain ⟨zs, rfl⟩ := tupB_tup c3.2
        obtain ⟨_, ly⟩ := tupB_len c3.1
        obtain ⟨_, lz⟩ := tupB_len c3.2
        refine next_ ?_
        dsimp only
        refine ret_ (tv_all (xs := ys ++ (zs ++ [])) (p := fun d => textB d 100) ?_ (by simp; omega) fun d hd => ?_) ?_
        · intro Q q
          refine (tv_ix ix1 s0 tv_c) _ ⟨ys, rfl, ?_⟩
          refine (tv_ix (i := 2) at3_2 s0 tv_c) _ ⟨zs, rfl, ?_⟩
          exact ⟨small (by simp; omega), q⟩
        · refine tv_text ?_ (tv_slot rfl) tv_c
          rw [List.append_nil] at hd
          rcases List.mem_append.mp hd with h | h
          · exact (gd_tup.mp gy).2 d h
          · exact (gd_tup.mp gz).2 d h
        · have e : (getBlk (.tup [.str "turn", .tup ys, .tup zs])).isSome = (ys ++ (zs ++ [])).all fun d => textB d 100 := by
            have e1 : rowB (.tup ys) = ys.all fun d => textB d 100 := by rw [rowB_parts, c3.1, Bool.true_and]
            have e2 : rowB (.tup zs) = zs.all fun d => textB d 100 := by rw [rowB_parts, c3.2, Bool.true_and]
            simp only [getBlk]
            rw [List.append_nil, List.all_append, ← e1, ← e2]
            cases h1 : rowB (.tup ys) <;> cases h2 : rowB (.tup zs) <;> simp
          rw [e] at q
          exact q
end K90

set_option maxHeartbeats 4000000
/-! K90h: changed, and the law's own. -/
namespace K90
open PySem PySem.Spec DL KB
open L2 (atI ixN)
open PyProof.Rows hiding St signs
variable {a b : Row}
/-! ### what changes tell -/
def stepL (a : Row) (s : Option (Row × Nat)) (x : DL.D) : Option (Row × Nat) :=
  match s with
  | some s => (match getBlk x with
    | some (.keep n) => if s.2 + n ≤ a.length then some (s.1 ++ cutN a s.2 (s.2 + n), s.2 + n) else none
    | some (.turn u v) => if cutN a s.2 (s.2 + u.length) = u then some (s.1 ++ v, s.2 + u.length) else none
    | none => none)
  | none => none
theorem step_none (a : Row) : ∀ xs : List DL.D, xs.foldl (stepL a) none = none
  | [] => rfl
  | x :: xs => by rw [List.foldl_cons]; exact step_none a xs
def told (a : Row) : DL.D → Option Row
  | .tup xs => if xs.length ≤ 81 then (match xs.foldl (stepL a) (some ([], 0)) with
    | some s => if s.2 = a.length then some s.1 else none
    | none => none) else none
  | _ => none
theorem told_tup {a : Row} {xs : List DL.D} (h : xs.length ≤ 81) : told a (.tup xs) = match xs.foldl (stepL a) (some ([], 0)) with
    | some s => if s.2 = a.length then some s.1 else none
    | none => none := by
  show (if _ then _ else _) = _
  rw [if_pos h]
theorem told_bad {a : Row} {xs pre suf : List DL.D} {z : DL.D} (e : pre ++ z :: suf = xs) (h : stepL a (pre.foldl (stepL a) (some ([], 0))) z = none) : told a (.tup xs) = none := by
  show (if _ then _ else _) = _
  split
  · rw [← e, List.foldl_append, List.foldl_cons, h, step_none]
  · rfl
theorem cutN_len {α : Type} (x : List α) (i j : Nat) : (cutN x i j).length ≤ x.length := by unfold cutN; rw [List.length_take, List.length_drop]; omega
/-- what is found on the way is small -/
def smS (n : Nat) (s : Row × Nat) : Prop := s.1.length ≤ 40 * n ∧ ∀ x ∈ s.1, textB (.str x) 100 = true
theorem step_sm {a : Row} (ha : okRow a) {n : Nat} {s s' : Row × Nat} {x : DL.D} (h : smS n s) (e : stepL a (some s) x = some s') : smS (n + 1) s' := by
  unfold stepL at e
  dsimp only at e
  split at e
  · split at e
    · cases e
      refine ⟨?_, fun y hy => ?_⟩
      · have := cutN_len a s.2 (s.2 + ‹Nat›)
        have := ha.1
        have := h.1
        simp
        omega
      · rcases List.mem_append.mp hy with z | z
        · exact h.2 y z
        · exact (ha.sm.cut _ _).2 y z
    · cases e
  · rename_i u v hb
    split at e
    · cases e
      have ok := (get_of hb).2
      have := ok.2.1
      have := h.1
      refine ⟨by simp; omega, fun y hy => ?_⟩
      rcases List.mem_append.mp hy with z | z
      · exact h.2 y z
      · exact ok.2.2 y z
    · cases e
  · cases e
/-! ### is_changes -/
def chB (v : DL.D) : Bool := tupB v 0 81 && match v with
  | .tup xs => xs.all fun d => (getBlk d).isSome
  | _ => false
def sp_chg : DS1 := fun ds M Q => ∃ v, ds = [v] ∧ gd v = true ∧ Q (.bl (chB v)) M
theorem rd_chg : ∀ ds M Q, sp_chg ds M Q → ds.length = 1 ∧ r_is_changes sp_blk sp_tuple { nx := fun _ M' => Q .non M', rt := Q } (dstart N_is_changes ds) M := by
  rintro _ M Q ⟨v, rfl, g, q⟩
  refine ⟨rfl, ?_⟩
  have s0 : TV (dSlot 0) (dstart N_is_changes [v]) M v := tv_slot rfl
  refine ret_ (d := .bl (chB v)) (tv_and (tv_tuple g s0 tv_c ?_) fun ht => ?_) q
  · intro Q q
    exact ⟨⟨64, 64, by decide, by decide, by decide⟩, q⟩
  · obtain ⟨xs, rfl⟩ := tupB_tup ht
    obtain ⟨_, l2⟩ := tupB_len ht
    refine tv_all s0 (by omega) fun d hd => ?_
    intro Q q
    exact ⟨_, rfl, d, rfl, (gd_tup.mp g).2 d hd, q⟩
theorem step_bad {a : Row} {z : DL.D} (h : getBlk z = none) (s : Option (Row × Nat)) : stepL a s z = none := by
  unfold stepL
  cases s with
  | none => rfl
  | some s => dsimp only; rw [h]
theorem told_chB {a : Row} {v : DL.D} (h : chB v = false) : told a v = none := by
  cases v <;> first | rfl | skip
  rename_i xs
  show (if _ then _ else _) = _
  split
  · rename_i l
    have ht : tupB (.tup xs) 0 81 = true := by simp [tupB]; omega
    unfold chB at h
    rw [ht, Bool.true_and] at h
    dsimp only at h
    have : xs.foldl (stepL a) (some ([], 0)) = none := by
      rw [List.all_eq_false] at h
      obtain ⟨z, hz, hb⟩ := h
      obtain ⟨u, w, rfl⟩ := List.append_of_mem hz
      rw [List.foldl_append, List.foldl_cons]
      have : stepL a (u.foldl (stepL a) (some ([], 0))) z = none := by
        exact step_bad (by cases hg : getBlk z with | none => rfl | some k => rw [hg] at hb; exact absurd rfl hb) _
      rw [this, step_none]
    rw [this]
  · rfl
/-! ### changed -/
theorem ext_ref {to te : DTE} {ρ : Rho} {M : Mp} {p : Addr} {xs ys : List DL.D} {d : DL.D} {Q : DK} (hp : M p = some (.lst xs)) (h : TV to ρ M (.ref p)) (k : TV te ρ M d) (e : lstT M d = some ys) (l : xs.length + ys.length ≤ 100000) (q : Q .non (mu M p (.lst (xs ++ ys)))) : dExtendT to te ρ M Q :=
  h _ ⟨by show (mol (M p)).isSome = true; rw [hp]; rfl, k _ ⟨p, d, xs, ys, rfl, rfl, hp, e, small l, q⟩⟩
theorem app_ref {to te : DTE} {ρ : Rho} {M : Mp} {p : Addr} {xs : List DL.D} {d : DL.D} {Q : DK} (hp : M p = some (.lst xs)) (h : TV to ρ M (.ref p)) (k : TV te ρ M d) (l : xs.length < 100000) (q : Q .non (mu M p (.lst (xs ++ [d])))) : dAppend to te ρ M Q :=
  h _ ⟨by show (mol (M p)).isSome = true; rw [hp]; rfl, k _ ⟨p, d, xs, rfl, rfl, hp, Nat.lt_of_lt_of_le l (small (Nat.le_refl _)), q⟩⟩
theorem drop_ {t : DTE} {D : DEnds} {ρ : Rho} {M : Mp} (h : t ρ M fun _ M1 => D.nx ρ M1) : dDrop t D ρ M := h
theorem raise_ {x : Str} {t : DTE} {E : DXK} {D : DEnds} {ρ : Rho} {M : Mp} {d : DL.D} (h : TV t ρ M d) (q : E x d M) : dRaise x t E D ρ M := h _ q
theorem int_lt (x y : Nat) : decide ((x : Int) < (y : Int)) = decide (x < y) := by
  by_cases h : x < y
  · rw [decide_eq_true h, decide_eq_true (by omega)]
  · rw [decide_eq_false h, decide_eq_false (by omega)]
theorem int_eq (x y : Nat) : decide ((x : Int) = (y : Int)) = decide (x = y) := by
  by_cases h : x = y
  · rw [decide_eq_true h, decide_eq_true (by omega)]
  · rw [decide_eq_false h, decide_eq_false (by omega)]
def sp_changed0 : DSp := fun ds M Q E => (∃ a v, ds = [R a, v] ∧ okRow a ∧ gd v = true ∧ (∀ f M', SubM M M' → told a v = some f → Q (R f) M') ∧ (∀ M', SubM M M' → told a v = none → E "BadRow" v M')) ∨ ∃ v w, ds = [v, w] ∧ badA v w M E
theorem rd_changed : ∀ ds M Q E, sp_changed0 ds M Q E → ds.length = 2 ∧ r_changed E sp_check sp_chg { nx := fun _ M' => Q .non M', rt := Q } (dstart N_changed ds) M := by
  rintro _ M Q E (⟨a, v, rfl, ha, gv, q, qe⟩ | ⟨v, w, rfl, ⟨g, hb, e⟩⟩)
  rotate_left
  · exact ⟨rfl, _, rfl, .inr ⟨v, rfl, g, hb, e⟩⟩
  refine ⟨rfl, ?_⟩
  refine ⟨_, rfl, .inl ⟨a, rfl, ha, ?_⟩⟩
  dsimp only
  refine seq_ (if_s (A := !chB v) (tb_not (tb_b fun Q q => ⟨_, rfl, v, rfl, gv, q⟩)) (fun hc => ?_) fun hc => ?_)
  · rw [Bool.not_eq_true'] at hc
    exact raise_ (tv_slot rfl) (qe M (SubM.refl M) (told_chB hc))
  rw [Bool.not_eq_false'] at hc
  unfold chB at hc
  rw [Bool.and_eq_true] at hc
  obtain ⟨ht, hall⟩ := hc
  obtain ⟨xs, rfl⟩ := tupB_tup ht
  obtain ⟨_, l2⟩ := tupB_len ht
  dsimp only at hall
  rw [List.all_eq_true] at hall
  refine next_ ?_
  refine ⟨Nat.zero_le _, fun p hp => ?_⟩
  refine ⟨_, _, rfl, ?_⟩
  have sub : ∀ o, SubM M (mu M p o) := fun o => (SubM.refl M).mu hp o
  have s0 : ∀ {x2 x3 x4 : Option DL.D} {M : Mp}, TV (dSlot 0) [some (R a), some (.tup xs), x2, x3, x4] M (R a) := fun {x2 x3 x4 M} => tv_slot rfl
  have hxs : xs = xs.map id := by simp
  refine ⟨_, rfl, ?_⟩
  show forW _ _ _ _ xs _ _
  rw [hxs]
  refine for_pre id xs (fun pre ρ M' => ∃ f h x2, ρ = [some (R a), some (.tup xs), x2, some (.ref p), some (.int (h : Nat))] ∧ M' = mu M p (.lst (f.map .str)) ∧ pre.foldl (stepL a) (some ([], 0)) = some (f, h) ∧ smS pre.length (f, h)) (fun _ _ _ _ => trivial) ?_ ?_ xs [] _ _ rfl ⟨[], 0, none, by rw [← hxs]; rfl, rfl, rfl, Nat.zero_le _, fun _ h => nomatch h⟩
  · rintro pre z suf e ρ M' ⟨f, h, x2, rfl, rfl, ef, sm⟩ N next
    have hz : z ∈ xs := by rw [← e]; simp
    obtain ⟨k, hk⟩ := Option.isSome_iff_exists.mp (hall z hz)
    obtain ⟨rfl, ok⟩ := get_of hk
    have pl : pre.length ≤ 81 := by
      have := congrArg List.length e
      simp at this
      omega
    have fl : f.length ≤ 40 * pre.length := sm.1
    have s3 : ∀ {M : Mp}, TV (dSlot 3) [some (R a), some (.tup xs), some (blkD k), some (.ref p), some (.int (h : Nat))] M (.ref p) := fun {M} => tv_slot rfl
    have s4 : ∀ {M : Mp}, TV (dSlot 4) [some (R a), some (.tup xs), some (blkD k), some (.ref p), some (.int (h : Nat))] M (.int (h : Nat)) := fun {M} => tv_slot rfl
    have bad : stepL a (some (f, h)) (blkD k) = none → told a (.tup xs) = none := fun hs => told_bad e (by rw [ef]; exact hs)
    have go : ∀ s x, stepL a (some (f, h)) (blkD k) = some s → N [some (R a), some (.tup xs), x, some (.ref p), some (.int (s.2 : Nat))] (mu M p (.lst (s.1.map .str))) := fun s x hs => by
      refine next _ _ ⟨s.1, s.2, x, rfl, rfl, ?_, ?_⟩
      · rw [List.foldl_append, ef]; exact hs
      · rw [List.length_append]
        exact step_sm ha sm hs
    have hst : ∀ r, (match some k with
      | some (.keep n) => if h + n ≤ a.length then some (f ++ cutN a h (h + n), h + n) else none
      | some (.turn u v) => if cutN a h (h + u.length) = u then some (f ++ v, h + u.length) else none
      | none => none) = r → stepL a (some (f, h)) (blkD k) = r := fun r hr => by
        unfold stepL
        dsimp only
        rw [hk]
        exact hr
    cases k with
    | keep n =>
      have s2 : ∀ {M : Mp}, TV (dSlot 2) [some (R a), some (.tup xs), some (blkD (.keep n)), some (.ref p), some (.int (h : Nat))] M (.tup [.str "keep", .int (n : Nat)]) := fun {M} => tv_slot rfl
      refine if_s (tb_b (tv_eqS (tv_ix ix0 s2 tv_c) tv_c)) (fun _ => ?_) fun hc => by simp at hc
      refine seq_ (if_s (tb_b (tv_gt (tv_add s4 (tv_ix ix1 s2 tv_c)) (tv_lenR s0))) (fun hc => ?_) fun hc => ?_)
      · rw [decide_eq_true_eq] at hc
        refine raise_ (tv_slot rfl) (qe _ (sub _) (bad (hst _ ?_)))
        show (if _ then _ else _) = _
        rw [if_neg (by omega)]
      · rw [decide_eq_false_iff_not] at hc
        have st := hst (some (f ++ cutN a h (h + n), h + n)) (by show (if _ then _ else _) = _; rw [if_pos (by omega)])
        refine next_ ?_
        dsimp only
        refine seq_ (drop_ ?_)
        refine ext_ref (ys := (cutN a h (h + n)).map .str) mu_same s3 (tv_slR (i := h) (j := h + n) rfl (by omega) s0 s4 (tv_add s4 (tv_ix ix1 s2 tv_c))) rfl (by have := cutN_len a h (h + n); have := ha.1; simp; omega) ?_
        rw [mu_mu]
        refine asg_ (tv_add s4 (tv_ix ix1 s2 tv_c)) ?_
        have := go _ (some (blkD (.keep n))) st
        rw [List.map_append] at this
        exact this
    | turn u v =>
      have s2 : ∀ {M : Mp}, TV (dSlot 2) [some (R a), some (.tup xs), some (blkD (.turn u v)), some (.ref p), some (.int (h : Nat))] M (.tup [.str "turn", R u, R v]) := fun {M} => tv_slot rfl
      refine if_s (tb_b (tv_eqS (tv_ix ix0 s2 tv_c) tv_c)) (fun hc => by simp at hc; exact absurd hc (by decide)) fun _ => ?_
      refine seq_ (if_s (tb_b (tv_neR (ha.sm.cut h (h + u.length)) ok.1.sm (tv_slR (i := h) (j := h + u.length) rfl (by omega) s0 s4 (tv_add s4 (tv_lenR (tv_ix ix1 s2 tv_c)))) (tv_ix ix1 s2 tv_c))) (fun hc => ?_) fun hc => ?_)
      · rw [Bool.not_eq_true', decide_eq_false_iff_not] at hc
        refine raise_ (tv_slot rfl) (qe _ (sub _) (bad (hst _ ?_)))
        show (if _ then _ else _) = _
        rw [if_neg hc]
      · rw [Bool.not_eq_false', decide_eq_true_eq] at hc
        have st := hst (some (f ++ v, h + u.length)) (by show (if _ then _ else _) = _; rw [if_pos hc])
        refine next_ ?_
        dsimp only
        refine seq_ (drop_ ?_)
        have lv := ok.2.1
        refine ext_ref (ys := v.map .str) mu_same s3 (tv_ix (i := 2) at3_2 s2 tv_c) rfl (by simp; omega) ?_
        rw [mu_mu]
        refine asg_ (tv_add s4 (tv_lenR (tv_ix ix1 s2 tv_c))) ?_
        have := go _ (some (blkD (.turn u v))) st
        rw [List.map_append] at this
        exact this
  · rintro ρ M' ⟨f, h, x2, rfl, rfl, ef, sm⟩
    have te : told a (.tup xs) = if h = a.length then some f else none := by
      rw [told_tup (by omega), ef]
    refine seq_ (if_s (tb_b (tv_neI (tv_slot rfl) (tv_lenR s0))) (fun hc => ?_) fun hc => ?_)
    · rw [Bool.not_eq_true', decide_eq_false_iff_not] at hc
      refine raise_ (tv_slot rfl) (qe _ (sub _) ?_)
      rw [te, if_neg (by omega)]
    · rw [Bool.not_eq_false', decide_eq_true_eq] at hc
      rw [if_pos (by omega)] at te
      refine ⟨_, rfl, ?_⟩
      exact tupd_of (d := .ref p) (show mol (mu M p _ p) = _ by rw [mu_same]; rfl) (q f _ (sub _) te)
end K90

set_option maxHeartbeats 4000000
/-! K90i: _law_is_int, _law_is_text, _law_is_row, _law_is_changed. -/
namespace K90
open PySem PySem.Spec DL KB
open L2 (atI ixN)
open PyProof.Rows hiding St signs
variable {a b : Row}
def longer (n : Int) : DL.D → Bool
  | .tup xs => decide (n < (xs.length : Int))
  | _ => false
def not23 : DL.D → Bool
  | .tup ys => !(decide ((ys.length : Int) = 2) || decide ((ys.length : Int) = 3))
  | _ => false
def hdS : DL.D → Bool
  | .tup (y :: _) => isS y
  | _ => false
def intB (lo hi : Int) : DL.D → Bool
  | .int n => decide (lo ≤ n) && decide (n ≤ hi)
  | _ => false
def sp_int : DS1 := fun ds M Q => ∃ v lo hi, ds = [v, .int lo, .int hi] ∧ gd v = true ∧ Q (.bl (intB lo hi v)) M
theorem rd_int : ∀ ds M Q, sp_int ds M Q → ds.length = 3 ∧ r__law_is_int { nx := fun _ M' => Q .non M', rt := Q } (dstart N__law_is_int ds) M := by
  rintro _ M Q ⟨v, lo, hi, rfl, g, q⟩
  refine ⟨rfl, ?_⟩
  have s0 : TV (dSlot 0) (dstart N__law_is_int [v, .int lo, .int hi]) M v := tv_slot rfl
  refine ret_ (d := .bl (isI v && (!isBl v && intB lo hi v))) (tv_and (tv_isI g s0) fun h1 => tv_and (tv_not (tv_isB g s0)) fun h2 => ?_) ?_
  · cases v <;> simp [isI, isBl] at h1 h2
    rename_i n
    intro Q q
    refine ⟨_, rfl, s0 _ ⟨_, _, rfl, rfl, trivial, _, rfl, ?_⟩⟩
    unfold intB at q
    dsimp only at q
    by_cases h : lo ≤ n
    · rw [decide_eq_true h] at q ⊢
      refine iteT ⟨_, rfl, _, _, rfl, rfl, trivial, ?_⟩
      rw [Bool.true_and] at q
      exact q
    · rw [decide_eq_false h] at q ⊢
      exact iteF q
  · have : (isI v && (!isBl v && intB lo hi v)) = intB lo hi v := by cases v <;> simp [isI, isBl, intB]
    rw [this]
    exact q
def sp_signs : DS1 := fun ds M Q => ds = [] ∧ Q (.str SIG) M
theorem rd_signs : ∀ ds M Q, sp_signs ds M Q → ds.length = 0 ∧ r__law_signs { nx := fun _ M' => Q .non M', rt := Q } (dstart N__law_signs ds) M := by
  rintro _ M Q ⟨rfl, q⟩
  exact ⟨rfl, q⟩
def txB : DL.D → Bool
  | .str x => x.cps.toList.all okSign
  | _ => false
def sp_ltext : DS1 := fun ds M Q => ∃ v, ds = [v] ∧ gd v = true ∧ Q (.bl (txB v)) M
theorem rd_ltext : ∀ ds M Q, sp_ltext ds M Q → ds.length = 1 ∧ r__law_is_text sp_signs { nx := fun _ M' => Q .non M', rt := Q } (dstart N__law_is_text ds) M := by
  rintro _ M Q ⟨v, rfl, g, q⟩
  refine ⟨rfl, ?_⟩
  have s0 : TV (dSlot 0) (dstart N__law_is_text [v]) M v := tv_slot rfl
  refine ret_ (d := .bl (isS v && txB v)) (tv_and (tv_isS g s0) fun h1 => ?_) ?_
  · cases v <;> simp [isS] at h1
    rename_i x
    have sz := (gd_str.mp g).1
    intro Q q
    refine ⟨_, rfl, ?_⟩
    refine lc_map (fun d => match d with | .str s => .bl (s.cps.toList.all okSign) | _ => .non) (by exact trivial) _ [] ?_ (by unfold DL.signs; simpa using small sz) ?_
    · intro d hd K1 K2 hk
      obtain ⟨c, hc, rfl⟩ := List.mem_map.mp hd
      refine ⟨_, rfl, rfl, c, rfl, ?_⟩
      simpa [okSign] using hk
    · refine newTr ⟨_, x.cps.toList.map okSign, rfl, ?_, ?_⟩
      · show some _ = some _
        unfold DL.signs
        rw [List.nil_append, List.map_map, List.map_map]
        refine congrArg some (List.map_congr_left fun c _ => ?_)
        simp
      · rw [List.all_map]; exact q
  · have : (isS v && txB v) = txB v := by cases v <;> simp [isS, txB]
    rw [this]
    exact q
theorem txB_len (v : DL.D) (g : gd v = true) : (txB v && match v with | .str x => decide ((x.length : Int) < 101) | _ => false) = textB v 100 := by
  cases v <;> simp [txB, textB]
  rename_i x
  rw [Bool.and_comm]
  congr 1
  exact decide_eq_decide.mpr (by omega)
def sp_lrow : DS1 := fun ds M Q => ∃ v, ds = [v] ∧ gd v = true ∧ Q (.bl (rowB v)) M
theorem rd_lrow : ∀ ds M Q, sp_lrow ds M Q → ds.length = 1 ∧ r__law_is_row sp_ltext { nx := fun _ M' => Q .non M', rt := Q } (dstart N__law_is_row ds) M := by
  rintro _ M Q ⟨v, rfl, g, q⟩
  refine ⟨rfl, ?_⟩
  have s0 : TV (dSlot 0) (dstart N__law_is_row [v]) M v := tv_slot rfl
  refine seq_ (if_s (A := !isT v || longer 40 v) (tb_or (tb_not (tb_b (tv_isT g s0))) fun h => ?_) (fun hc => ?_) fun hc => ?_)
  · cases v <;> simp [isT] at h
    exact tb_b (tv_gt (tv_len s0) tv_c)
  · refine ret_ tv_c ?_
    have : rowB v = false := by
      cases v <;> first | rfl | skip
      simp [isT, longer] at hc
      unfold rowB
      dsimp only
      rw [decide_eq_false (by omega), Bool.false_and]
    rw [this] at q
    exact q
  · cases v <;> simp [isT, longer] at hc
    rename_i xs
    refine next_ ?_
    dsimp only
    refine ret_ (tv_all (p := fun d => textB d 100) s0 (by omega) fun d hd => ?_) ?_
    · have gx := (gd_tup.mp g).2 d hd
      rw [← txB_len d gx]
      refine tv_and (fun Q q => ⟨_, rfl, d, rfl, gx, q⟩) fun h => ?_
      cases d <;> simp [txB] at h
      rename_i x
      exact tv_lt (tv_lenS (gd_str.mp gx).1 (tv_slot rfl)) tv_c
    · unfold rowB at q
      dsimp only at q
      rw [decide_eq_true (by omega), Bool.true_and] at q
      exact q
/-! ### _law_is_changed -/
def sp_ischg : DS1 := fun ds M Q => ∃ a v, ds = [R a, v] ∧ okRow a ∧ gd v = true ∧ ∀ (b : Bool) (f : Row), smRow f → (b = true → told a v = some f) → (b = false → told a v = none) → Q (.tup [.bl b, R f]) M
theorem tv_tup2 {t u : DTE} {ρ : Rho} {M : Mp} {x y : DL.D} (h : TV t ρ M x) (k : TV u ρ M y) : TV (dTup (dCons t (dCons u dNil))) ρ M (.tup [x, y]) := fun _ q => h _ (k _ ⟨small (by simp), q⟩)
theorem tv_tup0 {ρ : Rho} {M : Mp} : TV (dTup dNil) ρ M (.tup []) := fun _ q => ⟨small (by simp), q⟩
theorem tv_addR {x y : Row} {t u : DTE} {ρ : Rho} {M : Mp} {fz : Bool} (l : x.length + y.length ≤ 100000) (h : TV t ρ M (R x)) (k : TV u ρ M (R y)) : TV (dOp (rAddD fz) t u) ρ M (R (x ++ y)) := fun Q q => h _ (k _ ⟨by rw [R_len, R_len]; exact small l, by rw [← List.map_append]; exact q⟩)
theorem tv_call_int {v : DL.D} {lo hi : Int} {t u w : DTE} {ρ : Rho} {M : Mp} (g : gd v = true) (h : TV t ρ M v) (h1 : TV u ρ M (.int lo)) (h2 : TV w ρ M (.int hi)) : TV (dCall1 sp_int (dCons t (dCons u (dCons w dNil)))) ρ M (.bl (intB lo hi v)) := fun Q q => h _ (h1 _ (h2 _ ⟨v, lo, hi, rfl, g, q⟩))
theorem tv_not23 {n : Int} {t u v : DTE} {ρ : Rho} {M : Mp} (h : TV t ρ M (.int n)) (k : TV u ρ M (.int 2)) (k2 : TV v ρ M (.int 3)) : TV (dOp (rInD true) t (dTup (dCons u (dCons v dNil)))) ρ M (.bl (!(decide (n = 2) || decide (n = 3)))) := fun Q q => h _ (k _ (k2 _ ⟨small (by simp), _, rfl, rfl, rfl, by
  rw [if_pos rfl]
  have : ([DL.D.int 2, .int 3].any fun y => L2.eqV (vOf y) (vOf (.int n))) = (decide (n = 2) || decide (n = 3)) := by
    have e : ∀ m : Int, L2.eqV (vOf (.int m)) (vOf (.int n)) = decide (n = m) := fun m => by
      show (m == n) = _
      by_cases h : n = m
      · subst h; simp
      · rw [decide_eq_false h]
        exact beq_false_of_ne fun z => h z.symm
    rw [List.any_cons, List.any_cons, List.any_nil, Bool.or_false, e, e]
  rw [this]
  exact q⟩))
theorem rd_ischg : ∀ ds M Q, sp_ischg ds M Q → ds.length = 2 ∧ r__law_is_changed sp_int sp_lrow { nx := fun _ M' => Q .non M', rt := Q } (dstart N__law_is_changed ds) M := by
  rintro _ M Q ⟨a, v, rfl, ha, gv, q⟩
  refine ⟨rfl, ?_⟩
  have no : told a v = none → Q (.tup [.bl false, .tup []]) M := fun h => q false [] ⟨Nat.zero_le _, fun _ h => nomatch h⟩ (fun h => nomatch h) fun _ => h
  have s1 : TV (dSlot 1) (dstart N__law_is_changed [R a, v]) M v := tv_slot rfl
  refine seq_ (if_s (A := !isT v || longer 81 v) (tb_or (tb_not (tb_b (tv_isT gv s1))) fun h => ?_) (fun hc => ?_) fun hc => ?_)
  · cases v <;> simp [isT] at h
    exact tb_b (tv_gt (tv_len s1) tv_c)
  · refine ret_ (tv_tup2 tv_c tv_tup0) (no ?_)
    cases v <;> first | rfl | skip
    simp [isT, longer] at hc
    show (if _ then _ else _) = _
    rw [if_neg (by omega)]
  cases v <;> simp [isT, longer] at hc
  rename_i xs
  have gx := (gd_tup.mp gv).2
  refine next_ ?_
  dsimp only
  refine seq_ (asg_ (tv_tup2 tv_tup0 tv_c) ⟨_, rfl, rfl, _, _, rfl, _, _, rfl, rfl, ?_⟩)
  have s0 : ∀ {x2 x3 x4 x5 : Option DL.D}, TV (dSlot 0) [some (R a), some (.tup xs), x2, x3, x4, x5] M (R a) := fun {x2 x3 x4 x5} => tv_slot rfl
  have hxs : xs = xs.map id := by simp
  refine ⟨_, rfl, ?_⟩
  show forW _ _ _ _ xs _ _
  rw [hxs]
  refine for_pre id xs (fun pre ρ M' => ∃ f h x2, ρ = [some (R a), some (.tup xs), x2, some (R f), some (.int (h : Nat)), none] ∧ M' = M ∧ pre.foldl (stepL a) (some ([], 0)) = some (f, h) ∧ smS pre.length (f, h)) (fun _ _ _ _ => trivial) ?_ ?_ xs [] _ _ rfl ⟨[], 0, none, by rw [← hxs]; rfl, rfl, rfl, Nat.zero_le _, fun _ h => nomatch h⟩
  · rintro pre z suf e ρ M' ⟨f, h, x2, rfl, rfl, ef, sm⟩ N next
    have hz : z ∈ xs := by rw [← e]; simp
    have gz := gx z hz
    have pl : pre.length ≤ 81 := by
      have := congrArg List.length e
      simp at this
      omega
    have fl : f.length ≤ 40 * pre.length := sm.1
    have s2 : TV (dSlot 2) [some (R a), some (.tup xs), some z, some (R f), some (.int (h : Nat)), none] M' z := tv_slot rfl
    have s3 : TV (dSlot 3) [some (R a), some (.tup xs), some z, some (R f), some (.int (h : Nat)), none] M' (R f) := tv_slot rfl
    have s4 : TV (dSlot 4) [some (R a), some (.tup xs), some z, some (R f), some (.int (h : Nat)), none] M' (.int (h : Nat)) := tv_slot rfl
    have bad : stepL a (some (f, h)) z = none → told a (.tup xs) = none := fun hs => told_bad e (by rw [ef]; exact hs)
    have bad2 : getBlk z = none → told a (.tup xs) = none := fun hs => bad (step_bad hs _)
    have go : ∀ s, stepL a (some (f, h)) z = some s → N [some (R a), some (.tup xs), some z, some (R s.1), some (.int (s.2 : Nat)), none] M' := fun s hs => by
      refine next _ _ ⟨s.1, s.2, _, rfl, rfl, ?_, ?_⟩
      · rw [List.foldl_append, ef]; exact hs
      · rw [List.length_append]
        exact step_sm ha sm hs
    refine seq_ (if_s (A := !isT z || (not23 z || !hdS z)) (tb_or (tb_not (tb_b (tv_isT gz s2))) fun h1 => tb_or ?_ fun h2 => ?_) (fun hc => ?_) fun hc => ?_)
    · cases z <;> simp [isT] at h1
      exact tb_b (tv_not23 (tv_len s2) tv_c tv_c)
    · cases z <;> simp [isT] at h1
      rename_i ys
      match ys, h2 with
      | [], h2 => simp [not23] at h2
      | y :: r, _ => exact tb_not (tb_b (tv_isS ((gd_tup.mp gz).2 y (by simp)) (tv_ix ix0 s2 tv_c)))
    · refine ret_ (tv_tup2 tv_c tv_tup0) (no (bad2 ?_))
      unfold getBlk
      split
      · simp [isT, isS, not23, hdS] at hc
      · simp [isT, isS, not23, hdS] at hc
      · rfl
    · cases z <;> simp [isT, not23] at hc
      rename_i ys
      obtain ⟨hl, hs⟩ := hc
      obtain ⟨x, y, r, rfl⟩ : ∃ x y r, ys = x :: y :: r := by
        match ys, hl with
        | [], h => simp at h
        | [_], h => simp at h
        | x :: y :: r, _ => exact ⟨x, y, r, rfl⟩
      have gi := (gd_tup.mp gz).2
      have gy := gi y (by simp)
      cases x <;> simp [isS, hdS] at hs
      rename_i s
      refine next_ ?_
      dsimp only
      have ln : ((DL.D.str s :: y :: r).length : Int) = 2 + r.length := by simp; omega
      refine if_s (tb_b (tv_eqI (tv_len s2) tv_c)) (fun h2 => ?_) fun h2 => ?_
      · rw [decide_eq_true_eq, ln] at h2
        obtain rfl : r = [] := List.length_eq_zero_iff.mp (by omega)
        refine seq_ (if_s (tb_or (tb_b (tv_neS (tv_ix ix0 s2 tv_c) tv_c)) fun _ => tb_not (tb_b (tv_call_int gy (tv_ix ix1 s2 tv_c) tv_c (tv_sub (tv_lenR s0) s4)))) (fun hc => ?_) fun hc => ?_)
        · refine ret_ (tv_tup2 tv_c tv_tup0) (no ?_)
          by_cases hk : s = "keep"
          · subst hk
            simp at hc
            cases hg : getBlk (.tup [.str "keep", y]) with
            | none => exact bad2 hg
            | some k =>
              obtain ⟨e1, ok⟩ := get_of hg
              cases k with
              | turn u v => cases e1
              | keep n =>
                have e2 : y = .int (n : Nat) := by cases e1; rfl
                subst e2
                refine bad ?_
                unfold stepL
                dsimp only
                rw [hg]
                dsimp only
                rw [if_neg]
                intro hh
                simp [intB] at hc
                have : 0 < n := ok
                omega
          · refine bad2 ?_
            cases y <;> simp [getBlk, hk]
        · rw [Bool.or_eq_false_iff, Bool.not_eq_false', Bool.not_eq_false', decide_eq_true_eq] at hc
          obtain ⟨rfl, hi⟩ := hc
          cases y <;> simp [intB] at hi
          rename_i n
          obtain ⟨i1, i2⟩ := hi
          have hn : n = ((n.toNat : Nat) : Int) := by omega
          have hg : getBlk (.tup [.str "keep", .int n]) = some (.keep n.toNat) := by
            show (if _ then _ else _) = _
            rw [if_pos ⟨rfl, by omega⟩]
          have st : stepL a (some (f, h)) (.tup [.str "keep", .int n]) = some (f ++ cutN a h (h + n.toNat), h + n.toNat) := by
            unfold stepL
            dsimp only
            rw [hg]
            dsimp only
            rw [if_pos (by omega)]
          refine next_ ?_
          dsimp only
          have ad : TV (dOp (rAddD true) (dSlot 4) (dOp rIxD (dSlot 2) (dC (.int 1)))) [some (R a), some (.tup xs), some (.tup [.str "keep", .int n]), some (R f), some (.int (h : Nat)), none] M' (.int ((h + n.toNat : Nat) : Int)) := by
            have := tv_add (fz := true) s4 (tv_ix (i := 1) ix1 s2 tv_c)
            rw [show ((h + n.toNat : Nat) : Int) = (h : Int) + n by omega]
            exact this
          refine tv_addR (by have := cutN_len a h (h + n.toNat); have := ha.1; omega) s3 (tv_slR (i := h) (j := h + n.toNat) rfl rfl s0 s4 ad) _ (ad _ ⟨_, _, rfl, ?_⟩)
          exact go _ st
      · rw [decide_eq_false_iff_not, ln] at h2
        obtain ⟨z, rfl⟩ : ∃ z, r = [z] := by
          match r, h2, hl with
          | [], h2, _ => simp at h2
          | [z], _, _ => exact ⟨z, rfl⟩
          | _ :: _ :: r, _, hl => simp at hl; omega
        have gz2 := gi z (by simp)
        have tl : TV (dSl true (dSlot 2) (dPart (dC (.int 1))) dNoPart) [some (R a), some (.tup xs), some (.tup [.str s, y, z]), some (R f), some (.int (h : Nat)), none] M' (.tup [y, z]) := by
          intro Q q
          refine s2 _ ⟨1, rfl, ?_⟩
          show Q (.tup (DL.cutD [DL.D.str s, y, z] (some 1) none)) M'
          rw [cut1]
          exact q
        refine seq_ (if_s (tb_or (tb_b (tv_neS (tv_ix ix0 s2 tv_c) tv_c)) fun _ => tb_not (tb_b (tv_all (p := rowB) tl (by simp) fun d hd Q q => ⟨_, rfl, d, rfl, gi d (by simp at hd ⊢; exact .inr hd), q⟩))) (fun hc => ?_) fun hc => ?_)
        · refine ret_ (tv_tup2 tv_c tv_tup0) (no (bad2 ?_))
          simp only [getBlk]
          rw [if_neg]
          rintro ⟨rfl, c2, c3⟩
          simp [c2, c3] at hc
        · rw [Bool.or_eq_false_iff, Bool.not_eq_false', Bool.not_eq_false', decide_eq_true_eq, List.all_cons, List.all_cons, List.all_nil, Bool.and_true, Bool.and_eq_true] at hc
          obtain ⟨rfl, hy, hw⟩ := hc
          obtain ⟨u, rfl, hu⟩ := row_of hy
          obtain ⟨v, rfl, hv⟩ := row_of hw
          have hg : getBlk (.tup [.str "turn", R u, R v]) = some (.turn u v) := get_blk (k := .turn u v) ⟨hu, hv⟩
          refine next_ ?_
          dsimp only
          have ad : TV (dOp (rAddD true) (dSlot 4) (dCB DL.rLen (dCons (dOp rIxD (dSlot 2) (dC (.int 1))) dNil))) [some (R a), some (.tup xs), some (.tup [.str "turn", R u, R v]), some (R f), some (.int (h : Nat)), none] M' (.int ((h + u.length : Nat) : Int)) := by
            have := tv_add (fz := true) s4 (tv_lenR (tv_ix (i := 1) ix1 s2 tv_c))
            rw [show ((h + u.length : Nat) : Int) = (h : Int) + (u.length : Nat) by omega]
            exact this
          refine seq_ (if_s (tb_b (tv_neR (ha.sm.cut h (h + u.length)) hu.sm (tv_slR (i := h) (j := h + u.length) rfl rfl s0 s4 ad) (tv_ix ix1 s2 tv_c))) (fun hc => ?_) fun hc => ?_)
          · rw [Bool.not_eq_true', decide_eq_false_iff_not] at hc
            refine ret_ (tv_tup2 tv_c tv_tup0) (no (bad ?_))
            unfold stepL
            dsimp only
            rw [hg]
            dsimp only
            rw [if_neg hc]
          · rw [Bool.not_eq_false', decide_eq_true_eq] at hc
            have st : stepL a (some (f, h)) (.tup [.str "turn", R u, R v]) = some (f ++ v, h + u.length) := by
              unfold stepL
              dsimp only
              rw [hg]
              dsimp only
              rw [if_pos hc]
            refine next_ ?_
            dsimp only
            refine tv_addR (by have := hv.1; omega) s3 (tv_ix (i := 2) at3_2 s2 tv_c) _ (ad _ ⟨_, _, rfl, ?_⟩)
            exact go _ st
  · rintro ρ M' ⟨f, h, x2, rfl, rfl, ef, sm⟩
    have te : told a (.tup xs) = if h = a.length then some f else none := by
      rw [told_tup (by omega), ef]
    refine ret_ (tv_tup2 (tv_eqI (tv_slot rfl) (tv_lenR s0)) (tv_slot rfl)) ?_
    rw [int_eq]
    refine q _ f ⟨by have := sm.1; simp at this; omega, sm.2⟩ (fun hb => ?_) fun hb => ?_
    · rw [te, if_pos (by simpa using hb)]
    · rw [te, if_neg (by simpa using hb)]
end K90

set_option maxHeartbeats 4000000
/-! K90j: stable_places, taken_of, merged_rows, merged. -/
namespace K90
open PySem PySem.Spec DL KB
open L2 (atI ixN)
open PyProof.Rows hiding St signs
variable {a b : Row}
theorem ch_fact : ∀ {c : Ch} {i j : Nat}, isCh a b i j c → (c.map (·.1)).Pairwise (· < ·) ∧ ∀ x ∈ c, i ≤ x.1 ∧ j ≤ x.2 ∧ x.1 < a.length ∧ x.2 < b.length
  | [], _, _, _ => ⟨List.Pairwise.nil, fun _ h => nomatch h⟩
  | x :: r, i, j, ⟨h1, h2, h3, h4, h5, h6⟩ => by
    obtain ⟨k1, k2⟩ := ch_fact h6
    refine ⟨List.pairwise_cons.mpr ⟨fun y hy => ?_, k1⟩, fun y hy => ?_⟩
    · obtain ⟨z, hz, rfl⟩ := List.mem_map.mp hy
      have := (k2 z hz).1
      show x.1 < z.1
      omega
    · rcases List.mem_cons.mp hy with rfl | hy
      · exact ⟨h1, h2, h3, h4⟩
      · have := k2 y hy
        exact ⟨by omega, by omega, this.2.2⟩
theorem gr_fact (a b : Row) : ((grA a b).map (·.1)).Pairwise (· < ·) ∧ ∀ x ∈ grA a b, x.1 < a.length ∧ x.2 < b.length := by
  obtain ⟨h1, h2⟩ := ch_fact (gr_ch (a := a) (b := b) (i := 0) (j := 0) rfl).1
  exact ⟨h1, fun x hx => (h2 x hx).2.2⟩
theorem gr_len (a b : Row) : (grA a b).length ≤ a.length := by
  have h := (gr_ch (a := a) (b := b) (i := 0) (j := 0) rfl).2
  have := lc_le a b 0 0
  unfold grA
  omega
/-! ### a dict of places -/
def look (c : Ch) (p : Nat) : Option Nat := (c.find? fun x => x.1 == p).map (·.2)
def kc (c : Ch) : List (Int ⊕ Str) := c.map fun x => Sum.inl ((x.1 : Nat) : Int)
def vc (c : Ch) : List DL.D := c.map fun x => .int (x.2 : Nat)
theorem lk_look (p : Nat) : ∀ c : Ch, lkD (.inl (p : Int)) (kc c) (vc c) = (look c p).map fun n => .int (n : Nat)
  | [] => rfl
  | x :: c => by
    show (if Sum.inl ((x.1 : Nat) : Int) = Sum.inl ((p : Nat) : Int) then some (DL.D.int (x.2 : Nat)) else lkD _ (kc c) (vc c)) = _
    unfold look
    rw [List.find?_cons]
    by_cases h : x.1 = p
    · rw [if_pos (by rw [h])]
      have : (x.1 == p) = true := by simpa using h
      rw [this]; rfl
    · rw [if_neg (fun z => h (by injection z with z; omega))]
      have : (x.1 == p) = false := by simpa using h
      rw [this]
      exact lk_look p c
theorem look_mem {c : Ch} {p n : Nat} (h : look c p = some n) : (p, n) ∈ c := by
  unfold look at h
  cases hf : c.find? fun x => x.1 == p with
  | none => rw [hf] at h; cases h
  | some x =>
    rw [hf] at h
    cases h
    have h1 := List.find?_some hf
    have h2 := List.mem_of_find?_eq_some hf
    have : x.1 = p := by simpa using h1
    rw [← this]
    exact h2
theorem look_iff (c : Ch) (p : Nat) : (look c p).isSome = true ↔ p ∈ c.map (·.1) := by
  unfold look
  rw [Option.isSome_map, List.find?_isSome, List.mem_map]
  constructor
  · rintro ⟨x, hx, e⟩; exact ⟨x, hx, by simpa using e⟩
  · rintro ⟨x, hx, e⟩; exact ⟨x, hx, by simpa using e⟩
/-- the dict, of pairs that are walked -/
theorem dc_pairs {ρ : Rho} {M : Mp} {Q : DK} {te : DTE} {i j : Nat} (hi : ∀ x y : DL.D, ((((dwipe ρ [i, j]).set i (some x)).set j (some y))[i]? = some (some x)) ∧ ((((dwipe ρ [i, j]).set i (some x)).set j (some y))[j]? = some (some y))) {c : Ch} (nd : (c.map (·.1)).Pairwise (· < ·)) (len : c.length ≤ 100)
    (he : TV te ρ M (.lst (chD c))) (q : Q (.dct (kc c) (vc c)) M) : dDc (dIt te) (dgTup 2 (dgCons (dgName i) (dgCons (dgName j) dgNil))) dYes (dSlot i) (dSlot j) [i, j] ρ M Q := by
  refine he _ ?_
  have go : ∀ (suf pre : Ch), pre ++ suf = c → dcW (dgTup 2 (dgCons (dgName i) (dgCons (dgName j) dgNil))) dYes (dSlot i) (dSlot j) (fun _ => True) (dwipe ρ [i, j]) (fun kvs M2 => Q (.dct (kvs.map (·.1)) (kvs.map (·.2))) M2) (chD suf) (pre.map fun x => (Sum.inl ((x.1 : Nat) : Int), DL.D.int (x.2 : Nat))) M := by
    intro suf
    induction suf with
    | nil =>
      intro pre e
      rw [List.append_nil] at e
      subst e
      refine ⟨trivial, ?_⟩
      show Q (.dct ((pre.map _).map _) ((pre.map _).map _)) M
      rw [List.map_map, List.map_map]
      exact q
    | cons x suf ih =>
      intro pre e
      refine ⟨trivial, _, rfl, rfl, _, _, rfl, _, _, rfl, rfl, ?_⟩
      obtain ⟨h1, h2⟩ := hi (.int (x.1 : Nat)) (.int (x.2 : Nat))
      refine ⟨_, h1, _, h2, _, rfl, ?_, ?_⟩
      · rw [List.length_map]
        have := congrArg List.length e
        simp at this
        exact Nat.lt_of_lt_of_le (show pre.length < 100000 by omega) (small (Nat.le_refl _))
      · have ep : putKD (pre.map fun x : Nat × Nat => (Sum.inl ((x.1 : Nat) : Int), DL.D.int (x.2 : Nat))) (Sum.inl ((x.1 : Nat) : Int) : Int ⊕ Str) (.int (x.2 : Nat)) = (pre ++ [x]).map fun x : Nat × Nat => (Sum.inl ((x.1 : Nat) : Int), DL.D.int (x.2 : Nat)) := by
          unfold putKD
          rw [if_neg, List.map_append]
          · rfl
          · intro h
            rw [List.any_eq_true] at h
            obtain ⟨kv, hkv, hk⟩ := h
            obtain ⟨y, hy, rfl⟩ := List.mem_map.mp hkv
            have ey : y.1 = x.1 := by
              have := of_decide_eq_true hk
              injection this with this
              omega
            rw [← e, List.map_append, List.pairwise_append] at nd
            have := nd.2.2 y.1 (List.mem_map.mpr ⟨y, hy, rfl⟩) x.1 (by simp)
            omega
        rw [ep]
        exact ih (pre ++ [x]) (by rw [← e]; simp)
  exact go c [] rfl
/-! ### stable_places -/
abbrev Pl := Nat × Nat × Nat
def plD (p : Pl) : DL.D := .tup [.int (p.1 : Nat), .int (p.2.1 : Nat), .int (p.2.2 : Nat)]
def both (c d : Ch) (p : Nat) : Bool := (look c p).isSome && (look d p).isSome
def plAt (c d : Ch) (p : Nat) : Pl := (p, (look c p).getD 0, (look d p).getD 0)
def stab (x y z : Row) : List Pl := ((List.range x.length).filter (both (grA x y) (grA x z))).map (plAt (grA x y) (grA x z)) ++ [(x.length, y.length, z.length)]
theorem tv_inDc {t u : DTE} {ρ : Rho} {M : Mp} {c : Ch} {p : Nat} (h : TV t ρ M (.int (p : Nat))) (k : TV u ρ M (.dct (kc c) (vc c))) : TV (dOp rInDc t u) ρ M (.bl (look c p).isSome) := fun Q q => h _ (k _ ⟨_, _, _, rfl, rfl, by rw [lk_look, Option.isSome_map]; exact q⟩)
theorem tv_getDc {t u : DTE} {ρ : Rho} {M : Mp} {c : Ch} {p n : Nat} (e : look c p = some n) (h : TV t ρ M (.dct (kc c) (vc c))) (k : TV u ρ M (.int (p : Nat))) : TV (dOp rGetDc t u) ρ M (.int (n : Nat)) := fun Q q => h _ (k _ ⟨_, _, _, _, rfl, rfl, by rw [lk_look, e]; rfl, q⟩)
theorem tv_tup3 {t u v : DTE} {ρ : Rho} {M : Mp} {x y z : DL.D} (h : TV t ρ M x) (k : TV u ρ M y) (l : TV v ρ M z) : TV (dTup (dCons t (dCons u (dCons v dNil)))) ρ M (.tup [x, y, z]) := fun _ q => h _ (k _ (l _ ⟨small (by simp), q⟩))
theorem asg_tup2 {t u : DTE} {g : DTG} {D : DEnds} {ρ : Rho} {M : Mp} (h : t ρ M fun d M1 => u ρ M1 fun e M2 => [d, e].length ≤ sizeLine ∧ g (.tup [d, e]) ρ M2 D.nx) : dAsg (dTup (dCons t (dCons u dNil))) g D ρ M := h
def sp_stab : DS1 := fun ds M Q => ∃ x y z : Row, ds = [R x, R y, R z] ∧ x.length ≤ 100 ∧ y.length ≤ 100 ∧ z.length ≤ 100 ∧ Q (.lst ((stab x y z).map plD)) M
theorem rd_stab : ∀ ds M Q, sp_stab ds M Q → ds.length = 3 ∧ r_stable_places sp_pairs { nx := fun _ M' => Q .non M', rt := Q } (dstart N_stable_places ds) M := by
  rintro _ M Q ⟨x, y, z, rfl, lx, ly, lz, q⟩
  refine ⟨rfl, ?_⟩
  have c1 := gr_fact x y
  have c2 := gr_fact x z
  have n1 := gr_len x y
  have n2 := gr_len x z
  unfold r_stable_places
  refine seq_ (asg_tup2 ?_)
  refine dc_pairs (i := 6) (j := 7) (c := grA x y) (fun _ _ => ⟨rfl, rfl⟩) c1.1 (by omega) (fun Q q => ⟨_, rfl, _, rfl, x, y, rfl, lx, ly, q⟩) ?_
  refine dc_pairs (i := 6) (j := 7) (c := grA x z) (fun _ _ => ⟨rfl, rfl⟩) c2.1 (by omega) (fun Q q => ⟨_, rfl, _, rfl, x, z, rfl, lx, lz, q⟩) ?_
  refine ⟨small (by simp), _, rfl, rfl, _, _, rfl, _, _, rfl, rfl, ?_⟩
  refine ⟨_, rfl, _, rfl, _, rfl, by rw [R_len]; omega, by rw [R_len]; omega, ?_⟩
  rw [R_len, show ((x.length : Int)).toNat = x.length by omega]
  have er : rgD 0 x.length = (List.range x.length).map fun k : Nat => DL.D.int (k : Nat) := by
    unfold rgD
    refine List.map_congr_left fun k _ => ?_
    rw [Int.zero_add]
  rw [er]
  refine lc_flt (fun k : Nat => DL.D.int (k : Nat)) (both (grA x y) (grA x z)) (fun p => plD (plAt (grA x y) (grA x z) p)) trivial (List.range x.length) [] (fun p hp K1 K2 h1 h2 => ?_) (small (by simp; omega)) ?_
  · refine tb_and (tb_b (tv_inDc (c := grA x y) (p := p) (tv_slot rfl) (tv_slot rfl))) (fun _ => tb_b (tv_inDc (c := grA x z) (p := p) (tv_slot rfl) (tv_slot rfl))) _ ?_
    show if both (grA x y) (grA x z) p = true then _ else _
    cases hb : both (grA x y) (grA x z) p with
    | false => exact iteF (h2 hb)
    | true =>
      refine iteT ?_
      have hb2 := hb
      unfold both at hb
      rw [Bool.and_eq_true] at hb
      obtain ⟨m, hm⟩ := Option.isSome_iff_exists.mp hb.1
      obtain ⟨n, hn⟩ := Option.isSome_iff_exists.mp hb.2
      refine tv_tup3 (tv_slot rfl) (tv_getDc hm (tv_slot rfl) (tv_slot rfl)) (tv_getDc hn (tv_slot rfl) (tv_slot rfl)) _ ?_
      have := h1 hb2
      unfold plAt at this
      rw [hm, hn] at this
      exact this
  · refine newTr ?_
    refine ⟨_, rfl, _, rfl, ?_⟩
    refine tv_tup3 (tv_lenR (tv_slot rfl)) (tv_lenR (tv_slot rfl)) (tv_lenR (tv_slot rfl)) _ ?_
    refine ⟨?_, newTr ?_⟩
    · refine small ?_
      have := List.length_filter_le (both (grA x y) (grA x z)) (List.range x.length)
      simp at this ⊢
      omega
    · have e : ([] ++ ((List.range x.length).filter (both (grA x y) (grA x z))).map fun p => plD (plAt (grA x y) (grA x z) p)) ++ [DL.D.tup [.int x.length, .int y.length, .int z.length]] = (stab x y z).map plD := by
        unfold stab
        rw [List.map_append, List.map_map]
        rfl
      rw [← e] at q
      exact q
/-! ### taken_of -/
def taken (x y z : Row) : Option Row := if y = x then some z else if z = x ∨ z = y then some y else none
def optD : Option Row → DL.D
  | some r => R r
  | none => .non
def sp_taken : DS1 := fun ds M Q => ∃ x y z : Row, ds = [.tup [R x, R y, R z]] ∧ smRow x ∧ smRow y ∧ smRow z ∧ Q (optD (taken x y z)) M
theorem row_py {x : Row} (hx : smRow x) : (R x).py = some (PyData.tuple (x.map .str)) ∧ SeqAt.shaped (PyData.tuple (x.map .str)) = true ∧ (PyData.tuple (x.map .str)).depth ≤ 1 ∧ (PyData.tuple (x.map .str)).canLay0 = true := by
  obtain ⟨p, e, _, l, t⟩ := py_gd _ hx.gd
  have e1 : p = .tuple (x.map .str) := by
    have h : D.py (R x) = _ := e
    rw [D.py, pyAll_dat (α := Str) .str (fun _ => rfl)] at h
    cases h; rfl
  subst e1
  have d := row_dep x
  rw [← t] at d
  refine ⟨e, ?_, d, l⟩
  unfold SeqAt.shaped
  simp only [l, Bool.true_and, decide_eq_true_eq]
  omega
theorem eqv_row (x y : Row) : PyData.eqv (.tuple (x.map .str)) (.tuple (y.map .str)) = decide (x = y) := by
  rw [PyData.eqv]
  exact PySem.W.eqvAll_map x y
theorem tv_in2 {x y z : Row} (hx : smRow x) (hy : smRow y) (hz : smRow z) {t u v : DTE} {ρ : Rho} {M : Mp} (h : TV t ρ M (R z)) (k : TV u ρ M (R x)) (l : TV v ρ M (R y)) : TV (dOp (rInTD false) t (dTup (dCons u (dCons v dNil)))) ρ M (.bl (decide (z = x) || decide (z = y))) := fun Q q => h _ (k _ (l _ ⟨small (by simp), by
  obtain ⟨e1, s1, d1, l1⟩ := row_py hx
  obtain ⟨e2, s2, d2, l2⟩ := row_py hy
  obtain ⟨e3, s3, d3, l3⟩ := row_py hz
  refine ⟨_, [PyData.tuple (x.map .str), PyData.tuple (y.map .str)], _, e3, rfl, ?_, s3, ?_, by omega, ?_⟩
  · rw [pyAll, e1, pyAll, e2]; rfl
  · unfold SeqAt.shaped
    have dd : (PyData.tuple [PyData.tuple (x.map .str), PyData.tuple (y.map .str)]).depth ≤ 2 := by
      rw [PyData.depth, PyData.depthAll, PyData.depthAll, PyData.depthAll]
      omega
    have ll : (PyData.tuple [PyData.tuple (x.map .str), PyData.tuple (y.map .str)]).canLay0 = true := by
      rw [PyData.canLay0, PyData.canLayAll0, PyData.canLayAll0, PyData.canLayAll0, l1, l2]; rfl
    rw [ll, Bool.true_and, decide_eq_true_eq]
    omega
  · rw [if_neg (by simp)]
    have : ([PyData.tuple (x.map .str), PyData.tuple (y.map .str)].any fun w => PyData.eqv w (.tuple (z.map .str))) = (decide (z = x) || decide (z = y)) := by
      rw [List.any_cons, List.any_cons, List.any_nil, Bool.or_false, eqv_row, eqv_row]
      have c : ∀ u : Row, decide (u = z) = decide (z = u) := fun u => decide_eq_decide.mpr ⟨Eq.symm, Eq.symm⟩
      rw [c, c]
    rw [this]
    exact q⟩))
theorem rd_taken : ∀ ds M Q, sp_taken ds M Q → ds.length = 1 ∧ r_taken_of { nx := fun _ M' => Q .non M', rt := Q } (dstart N_taken_of ds) M := by
  rintro _ M Q ⟨x, y, z, rfl, hx, hy, hz, q⟩
  refine ⟨rfl, ?_⟩
  unfold r_taken_of
  refine seq_ (asg_ (tv_slot rfl) ⟨_, rfl, rfl, _, _, rfl, _, _, rfl, _, _, rfl, rfl, ?_⟩)
  dsimp only
  refine seq_ (if_s (tb_b (tv_eqR hy hx (tv_slot rfl) (tv_slot rfl))) (fun hc => ?_) fun hc => ?_)
  · refine ret_ (tv_slot rfl) ?_
    unfold taken at q
    rw [if_pos (by simpa using hc)] at q
    exact q
  · refine next_ ?_
    dsimp only
    have hc' : ¬ y = x := by simpa using hc
    refine ret_ (tv_if (d := optD (taken x y z)) (tb_b (tv_in2 hx hy hz (tv_slot rfl) (tv_slot rfl) (tv_slot rfl))) (fun h => ?_) fun h => ?_) q
    · have : taken x y z = some y := by
        unfold taken
        rw [if_neg hc', if_pos (by simpa using h)]
      rw [this]
      exact tv_slot rfl
    · have : taken x y z = none := by
        unfold taken
        rw [if_neg hc', if_neg (by simpa using h)]
      rw [this]
      exact tv_c
/-! ### merged_rows -/
abbrev Cl := Nat × Nat × Row × Row
def clD (c : Cl) : DL.D := .tup [.int (c.1 : Nat), .int (c.2.1 : Nat), R c.2.2.1, R c.2.2.2]
abbrev MSt := Row × List Cl × Pl
def mstep (x y z : Row) (s : MSt) (p : Pl) : MSt :=
  match taken (cutN x s.2.2.1 p.1) (cutN y s.2.2.2.1 p.2.1) (cutN z s.2.2.2.2 p.2.2) with
  | some w => (s.1 ++ w ++ cutN x p.1 (p.1 + 1), s.2.1, p.1 + 1, p.2.1 + 1, p.2.2 + 1)
  | none => (s.1 ++ cutN x p.1 (p.1 + 1), s.2.1 ++ [(s.2.2.1, p.1, cutN y s.2.2.2.1 p.2.1, cutN z s.2.2.2.2 p.2.2)], p.1 + 1, p.2.1 + 1, p.2.2 + 1)
def mrun (x y z : Row) : MSt := (stab x y z).foldl (mstep x y z) ([], [], 0, 0, 0)
/-- what stays small on the way -/
structure MSm (n : Nat) (s : MSt) : Prop where
  f : s.1.length ≤ 80 * n
  ft : ∀ x ∈ s.1, textB (.str x) 100 = true
  c : s.2.1.length ≤ n
  ct : ∀ x ∈ s.2.1, x.1 ≤ 1000 ∧ x.2.1 ≤ 1000 ∧ okRow x.2.2.1 ∧ okRow x.2.2.2
  p : s.2.2.1 ≤ 1000
theorem okRow.cut {a : Row} (h : okRow a) (i j : Nat) : okRow (cutN a i j) := ⟨Nat.le_trans (cutN_len a i j) h.1, (h.sm.cut i j).2⟩
theorem taken_ok {x y z w : Row} (hy : okRow y) (hz : okRow z) (h : taken x y z = some w) : okRow w := by
  unfold taken at h
  split at h
  · cases h; exact hz
  · split at h
    · cases h; exact hy
    · cases h
theorem cut1_len {α : Type} (x : List α) (i : Nat) : (cutN x i (i + 1)).length ≤ 1 := by unfold cutN; rw [List.length_take]; omega
theorem mstep_sm {x y z : Row} (hx : okRow x) (hy : okRow y) (hz : okRow z) {n : Nat} {s : MSt} {p : Pl} (h : MSm n s) (hp : p.1 ≤ 40) : MSm (n + 1) (mstep x y z s p) := by
  have l1 := cut1_len x p.1
  unfold mstep
  cases e : taken (cutN x s.2.2.1 p.1) (cutN y s.2.2.2.1 p.2.1) (cutN z s.2.2.2.2 p.2.2) with
  | some w =>
    have hw := taken_ok (hy.cut _ _) (hz.cut _ _) e
    dsimp only
    refine ⟨?_, fun t ht => ?_, Nat.le_trans h.c (by omega), h.ct, by dsimp only; omega⟩
    · have := h.f; have := hw.1
      simp only [List.length_append]
      omega
    · rcases List.mem_append.mp ht with ht | ht
      · rcases List.mem_append.mp ht with ht | ht
        · exact h.ft t ht
        · exact hw.2 t ht
      · exact (hx.cut _ _).2 t ht
  | none =>
    dsimp only
    refine ⟨?_, fun t ht => ?_, ?_, fun t ht => ?_, by dsimp only; omega⟩
    · have := h.f
      simp only [List.length_append]
      omega
    · rcases List.mem_append.mp ht with ht | ht
      · exact h.ft t ht
      · exact (hx.cut _ _).2 t ht
    · have := h.c
      simp only [List.length_append, List.length_cons, List.length_nil]
      omega
    · rcases List.mem_append.mp ht with ht | ht
      · exact h.ct t ht
      · rw [List.mem_singleton.mp ht]
        exact ⟨h.p, by dsimp only; omega, hy.cut _ _, hz.cut _ _⟩
theorem stab_sm (x y z : Row) : (stab x y z).length ≤ x.length + 1 ∧ ∀ p ∈ stab x y z, p.1 ≤ x.length := by
  unfold stab
  have := List.length_filter_le (both (grA x y) (grA x z)) (List.range x.length)
  refine ⟨by simp at this ⊢; omega, fun p hp => ?_⟩
  rcases List.mem_append.mp hp with h | h
  · obtain ⟨k, hk, rfl⟩ := List.mem_map.mp h
    have := (List.mem_filter.mp hk).1
    rw [List.mem_range] at this
    show k ≤ _
    omega
  · rw [List.mem_singleton.mp h]
    exact Nat.le_refl _
theorem mrun_sm {x y z : Row} (hx : okRow x) (hy : okRow y) (hz : okRow z) : MSm 41 (mrun x y z) := by
  obtain ⟨h1, h2⟩ := stab_sm x y z
  have go : ∀ (ps : List Pl) (n : Nat) (s : MSt), (∀ p ∈ ps, p.1 ≤ x.length) → MSm n s → MSm (n + ps.length) (ps.foldl (mstep x y z) s) := by
    intro ps
    induction ps with
    | nil => intro n s _ h; exact h
    | cons p ps ih =>
      intro n s hp h
      rw [List.foldl_cons, List.length_cons, show n + (ps.length + 1) = (n + 1) + ps.length by omega]
      exact ih (n + 1) _ (fun q hq => hp q (List.mem_cons_of_mem _ hq)) (mstep_sm hx hy hz h (Nat.le_trans (hp p List.mem_cons_self) hx.1))
  have := go (stab x y z) 0 ([], [], 0, 0, 0) h2 ⟨by simp, (fun _ h => nomatch h), by simp, (fun _ h => nomatch h), by simp⟩
  have hl : 0 + (stab x y z).length ≤ 41 := by have := hx.1; omega
  have e : mrun x y z = (stab x y z).foldl (mstep x y z) ([], [], 0, 0, 0) := rfl
  rw [e]
  exact ⟨Nat.le_trans this.f (by omega), this.ft, Nat.le_trans this.c hl, this.ct, this.p⟩
def sp_mrows : DS1 := fun ds M Q => ∃ x y z : Row, ds = [R x, R y, R z] ∧ okRow x ∧ okRow y ∧ okRow z ∧ ∀ M', SubM M M' → Q (.tup [R (mrun x y z).1, .tup ((mrun x y z).2.1.map clD)]) M'
theorem tv_tup4 {t u v w : DTE} {ρ : Rho} {M : Mp} {x y z r : DL.D} (h : TV t ρ M x) (k : TV u ρ M y) (l : TV v ρ M z) (m : TV w ρ M r) : TV (dTup (dCons t (dCons u (dCons v (dCons w dNil))))) ρ M (.tup [x, y, z, r]) := fun _ q => h _ (k _ (l _ (m _ ⟨small (by simp), q⟩)))
theorem tv_isN {t : DTE} {ρ : Rho} {M : Mp} {d : DL.D} (h : TV t ρ M d) : TV (dOp (rIsN false) t (dC .non)) ρ M (.bl (isNon d)) := fun Q q => h _ ⟨rfl, q⟩
theorem rd_mrows : ∀ ds M Q, sp_mrows ds M Q → ds.length = 3 ∧ r_merged_rows sp_stab sp_taken { nx := fun _ M' => Q .non M', rt := Q } (dstart N_merged_rows ds) M := by
  rintro _ M Q ⟨x, y, z, rfl, hx, hy, hz, q⟩
  refine ⟨rfl, ?_⟩
  refine ⟨Nat.zero_le _, fun p hp => ?_⟩
  refine ⟨Nat.zero_le _, fun r hr => ?_⟩
  refine ⟨small (by simp), _, _, _, rfl, ?_⟩
  have nrp : r ≠ p := by rintro rfl; rw [mu_same] at hr; cases hr
  have hr0 : M r = none := by rw [mu_ne nrp] at hr; exact hr
  refine ⟨_, rfl, _, rfl, _, rfl, x, y, z, rfl, okRow_len hx, okRow_len hy, okRow_len hz, ?_⟩
  obtain ⟨sl, sp⟩ := stab_sm x y z
  have lx := hx.1
  refine for_pre plD (stab x y z) (fun pre ρ M' => ∃ s x3 x7 x8, ρ = [some (R x), some (R y), some (R z), x3, some (.ref p), some (.ref r), some (plD s.2.2), x7, x8] ∧ SubM M M' ∧ M' p = some (.lst (s.1.map .str)) ∧ M' r = some (.lst (s.2.1.map clD)) ∧ pre.foldl (mstep x y z) ([], [], 0, 0, 0) = s ∧ MSm pre.length s) (fun _ _ _ _ => trivial) ?_ ?_ _ [] _ _ rfl
    ⟨([], [], 0, 0, 0), none, none, none, rfl, ((SubM.refl M).mu hp _).mu hr0 _, by rw [mu_ne nrp.symm, mu_same]; rfl, by rw [mu_same]; rfl, rfl, ⟨by simp, (fun _ h => nomatch h), by simp, (fun _ h => nomatch h), by simp⟩⟩
  · rintro pre w suf e ρ M' ⟨s, x3, x7, x8, rfl, sub, ep, er, es, sm⟩ N next
    have hw := sp w (by rw [← e]; simp)
    have pl : pre.length ≤ 40 := by
      have := congrArg List.length e
      simp at this
      omega
    obtain ⟨f, cl, h1, h2, h3⟩ := s
    have s6 : ∀ {M : Mp} {x7 x8 : Option DL.D}, TV (dSlot 6) [some (R x), some (R y), some (R z), some (plD w), some (.ref p), some (.ref r), some (plD (h1, h2, h3)), x7, x8] M (.tup [.int (h1 : Nat), .int (h2 : Nat), .int (h3 : Nat)]) := fun {M x7 x8} => tv_slot rfl
    have s3 : ∀ {M : Mp} {x7 x8 : Option DL.D}, TV (dSlot 3) [some (R x), some (R y), some (R z), some (plD w), some (.ref p), some (.ref r), some (plD (h1, h2, h3)), x7, x8] M (.tup [.int (w.1 : Nat), .int (w.2.1 : Nat), .int (w.2.2 : Nat)]) := fun {M x7 x8} => tv_slot rfl
    have s0 : ∀ {M : Mp} {x7 x8 : Option DL.D}, TV (dSlot 0) [some (R x), some (R y), some (R z), some (plD w), some (.ref p), some (.ref r), some (plD (h1, h2, h3)), x7, x8] M (R x) := fun {M x7 x8} => tv_slot rfl
    refine seq_ (asg_ (tv_tup3 (tv_slR (i := h1) (j := w.1) rfl rfl s0 (tv_ix at3_0 s6 tv_c) (tv_ix at3_0 s3 tv_c)) (tv_slR (i := h2) (j := w.2.1) rfl rfl (tv_slot rfl) (tv_ix at3_1 s6 tv_c) (tv_ix at3_1 s3 tv_c)) (tv_slR (i := h3) (j := w.2.2) rfl rfl (tv_slot rfl) (tv_ix at3_2 s6 tv_c) (tv_ix at3_2 s3 tv_c))) ?_)
    dsimp only
    refine seq_ (asg_ (d := optD (taken (cutN x h1 w.1) (cutN y h2 w.2.1) (cutN z h3 w.2.2))) (fun Q q => ⟨_, rfl, _, _, _, rfl, (hx.cut _ _).sm, (hy.cut _ _).sm, (hz.cut _ _).sm, q⟩) ?_)
    have step : ∀ s', mstep x y z (f, cl, h1, h2, h3) w = s' → ∀ x7 x8 M'', SubM M M'' → M'' p = some (.lst (s'.1.map .str)) → M'' r = some (.lst (s'.2.1.map clD)) → N [some (R x), some (R y), some (R z), some (plD w), some (.ref p), some (.ref r), some (plD s'.2.2), x7, x8] M'' := by
      rintro s' e' x7 x8 M'' k1 k2 k3
      refine next _ _ ⟨s', _, _, _, rfl, k1, k2, k3, ?_, ?_⟩
      · rw [List.foldl_append, es]; exact e'
      · rw [List.length_append, ← e']
        exact mstep_sm hx hy hz sm (by omega)
    have fl : f.length ≤ 80 * pre.length := sm.f
    have cll : cl.length ≤ pre.length := sm.c
    -- the tail
    have tail : ∀ (f' : Row) (cl' : List Cl) (M1 : Mp) x7 x8, mstep x y z (f, cl, h1, h2, h3) w = (f' ++ cutN x w.1 (w.1 + 1), cl', w.1 + 1, w.2.1 + 1, w.2.2 + 1) → f'.length ≤ 10000 → SubM M M1 → M1 p = some (.lst (f'.map .str)) → M1 r = some (.lst (cl'.map clD)) →
        dSeq (dDrop (dExtendT (dSlot 4) (dSl true (dSlot 0) (dPart (dOp rIxD (dSlot 3) (dC (.int 0)))) (dPart (dOp (rAddD true) (dOp rIxD (dSlot 3) (dC (.int 0))) (dC (.int 1))))))) (dAsg (dTup (dCons (dOp (rAddD true) (dOp rIxD (dSlot 3) (dC (.int 0))) (dC (.int 1))) (dCons (dOp (rAddD true) (dOp rIxD (dSlot 3) (dC (.int 1))) (dC (.int 1))) (dCons (dOp (rAddD true) (dOp rIxD (dSlot 3) (dC (.int 2))) (dC (.int 1))) dNil)))) (dgName 6)) { nx := N, ct := N, bk := fun _ _ => True, rt := Q }
          [some (R x), some (R y), some (R z), some (plD w), some (.ref p), some (.ref r), some (plD (h1, h2, h3)), x7, x8] M1 := by
      intro f' cl' M1 x7 x8 e' lf k1 k2 k3
      refine seq_ (drop_ ?_)
      have := cut1_len x w.1
      refine ext_ref (ys := (cutN x w.1 (w.1 + 1)).map .str) k2 (tv_slot rfl) (tv_slR (i := w.1) (j := w.1 + 1) rfl (by omega) s0 (tv_ix at3_0 s3 tv_c) (tv_add (tv_ix at3_0 s3 tv_c) tv_c)) rfl (by simp; omega) ?_
      refine asg_ (tv_tup3 (tv_add (tv_ix at3_0 s3 tv_c) tv_c) (tv_add (tv_ix at3_1 s3 tv_c) tv_c) (tv_add (tv_ix at3_2 s3 tv_c) tv_c)) ?_
      refine step _ e' _ _ _ (k1.mu hp _) ?_ ?_
      · rw [mu_same, List.map_append]
      · rw [mu_ne nrp]; exact k3
    cases ht : taken (cutN x h1 w.1) (cutN y h2 w.2.1) (cutN z h3 w.2.2) with
    | none =>
      have e' : mstep x y z (f, cl, h1, h2, h3) w = (f ++ cutN x w.1 (w.1 + 1), cl ++ [(h1, w.1, cutN y h2 w.2.1, cutN z h3 w.2.2)], w.1 + 1, w.2.1 + 1, w.2.2 + 1) := by
        unfold mstep; dsimp only; rw [ht]
      refine seq_ (if_s (tb_b (tv_isN (tv_slot rfl))) (fun _ => ?_) fun hc => nomatch hc)
      refine drop_ (app_ref er (tv_slot rfl) (tv_tup4 (tv_ix at3_0 s6 tv_c) (tv_ix at3_0 s3 tv_c) (tv_ix at3_1 (tv_slot rfl) tv_c) (tv_ix at3_2 (tv_slot rfl) tv_c)) (by simp; omega) ?_)
      refine tail f _ _ _ _ e' (by omega) (sub.mu hr0 _) (by rw [mu_ne nrp.symm]; exact ep) ?_
      rw [mu_same, List.map_append]; rfl
    | some v =>
      have hv := taken_ok (hy.cut _ _) (hz.cut _ _) ht
      have e' : mstep x y z (f, cl, h1, h2, h3) w = ((f ++ v) ++ cutN x w.1 (w.1 + 1), cl, w.1 + 1, w.2.1 + 1, w.2.2 + 1) := by
        unfold mstep; dsimp only; rw [ht]
      refine seq_ (if_s (tb_b (tv_isN (tv_slot rfl))) (fun hc => nomatch hc) fun _ => ?_)
      have := hv.1
      refine drop_ (ext_ref (ys := v.map .str) ep (tv_slot rfl) (tv_slot rfl) rfl (by simp; omega) ?_)
      refine tail (f ++ v) _ _ _ _ e' (by simp; omega) (sub.mu hp _) (by rw [mu_same, List.map_append]) ?_
      rw [mu_ne nrp]; exact er
  · rintro ρ M' ⟨s, x3, x7, x8, rfl, sub, ep, er, es, sm⟩
    have e : mrun x y z = s := es
    subst e
    dsimp only
    refine ret_ (d := .tup [R (mrun x y z).1, .tup ((mrun x y z).2.1.map clD)]) (tv_tup2 (fun Q q => ?_) fun Q q => ?_) ?_
    · exact ⟨_, rfl, tupd_of (d := .ref p) (show mol (M' p) = _ by rw [ep]; rfl) q⟩
    · exact ⟨_, rfl, tupd_of (d := .ref r) (show mol (M' r) = _ by rw [er]; rfl) q⟩
    · exact q M' sub
/-! ### merged -/
def mres (x y z : Row) : DL.D := if (mrun x y z).2.1 = [] then .tup [.str "merged", R (mrun x y z).1] else .tup [.str "clash", .tup ((mrun x y z).2.1.map clD)]
def badC (u v w : DL.D) (M : Mp) (E : DXK) : Prop := ∃ a, u = R a ∧ okRow a ∧ badA v w M E
def badD (u v w : DL.D) (M : Mp) (E : DXK) : Prop := ∃ a b, u = R a ∧ okRow a ∧ v = R b ∧ okRow b ∧ gd w = true ∧ rowB w = false ∧ E "BadRow" w M
def sp_merged0 : DSp := fun ds M Q E => (∃ x y z, ds = [R x, R y, R z] ∧ okRow x ∧ okRow y ∧ okRow z ∧ ∀ M', SubM M M' → Q (mres x y z) M') ∨ ∃ u v w, ds = [u, v, w] ∧ (badC u v w M E ∨ badD u v w M E)
def sp_merged : DSp := fun ds M Q E => (∃ x y z, ds = [R x, R y, R z] ∧ okRow x ∧ okRow y ∧ okRow z ∧ Q (mres x y z) M) ∨ ∃ u v w, ds = [u, v, w] ∧ (badC u v w M E ∨ badD u v w M E)
theorem wk_merged : ∀ ds M Q E, sp_merged ds M Q E → sp_merged0 ds M (fun d M1 => ∃ M2, SubM M2 M1 ∧ Q d M2) fun x v M1 => ∃ M2, SubM M2 M1 ∧ E x v M2 := by
  rintro ds M Q E (⟨x, y, z, e, hx, hy, hz, q⟩ | ⟨u, v, w, rfl, ⟨a, rfl, ha, g, hb, e⟩ | ⟨a, b, rfl, ha, rfl, hb, g, hw, e⟩⟩)
  · exact .inl ⟨x, y, z, e, hx, hy, hz, fun _ s => ⟨M, s, q⟩⟩
  · exact .inr ⟨_, v, w, rfl, .inl ⟨a, rfl, ha, g, hb, M, SubM.refl M, e⟩⟩
  · exact .inr ⟨_, _, w, rfl, .inr ⟨a, b, rfl, ha, rfl, hb, g, hw, M, SubM.refl M, e⟩⟩
def sp_changed : DSp := fun ds M Q E => (∃ a v, ds = [R a, v] ∧ okRow a ∧ gd v = true ∧ (∀ f, told a v = some f → Q (R f) M) ∧ (told a v = none → E "BadRow" v M)) ∨ ∃ v w, ds = [v, w] ∧ badA v w M E
theorem wk_changed : ∀ ds M Q E, sp_changed ds M Q E → sp_changed0 ds M (fun d M1 => ∃ M2, SubM M2 M1 ∧ Q d M2) fun x v M1 => ∃ M2, SubM M2 M1 ∧ E x v M2 := by
  rintro ds M Q E (⟨a, v, e, ha, g, q, qe⟩ | ⟨v, w, rfl, g, hb, e⟩)
  · exact .inl ⟨a, v, e, ha, g, fun f _ s h => ⟨M, s, q f h⟩, fun _ s h => ⟨M, s, qe h⟩⟩
  · exact .inr ⟨v, w, rfl, g, hb, M, SubM.refl M, e⟩
theorem tv_unit {t : DTE} {ρ : Rho} {M : Mp} {xs : List DL.D} (g : gd (.tup xs) = true) (d : dep (.tup xs) ≤ 60) (h : TV t ρ M (.tup xs)) : TV (dOp (rEqD2 false) t (dTup dNil)) ρ M (.bl xs.isEmpty) := fun Q q => h _ ⟨small (by simp), by
  obtain ⟨ps, e, h1, h2, h3⟩ := pyAll_gd xs (gd_tup.mp g).2
  refine ⟨.tuple ps, .tuple [], ?_, rfl, ?_, by decide, ?_⟩
  · show (match pyAll xs with | some ps => some (PyData.tuple ps) | none => none) = _
    rw [e]
  · unfold SeqAt.shaped
    simp only [PyData.canLay0, PyData.depth, h2, h3, Bool.true_and, decide_eq_true_eq]
    simp only [dep] at d
    omega
  · have : PyData.eqv (.tuple ps) (.tuple []) = xs.isEmpty := by
      cases xs with
      | nil => simp [pyAll] at e; subst e; rfl
      | cons x xs =>
        simp only [pyAll] at e
        split at e
        · cases e; rfl
        · cases e
    rw [if_neg (by simp), this]
    exact q⟩
theorem cl_gd {c : Cl} (h : c.1 ≤ 1000 ∧ c.2.1 ≤ 1000 ∧ okRow c.2.2.1 ∧ okRow c.2.2.2) : gd (clD c) = true := gd_tup.mpr ⟨by simp, fun y hy => by
  simp at hy
  rcases hy with rfl | rfl | rfl | rfl
  · exact int_gd (by omega)
  · exact int_gd (by omega)
  · exact row_gd h.2.2.1
  · exact row_gd h.2.2.2⟩
theorem cl_dep (c : Cl) : dep (clD c) ≤ 2 := by
  have h1 := row_dep c.2.2.1
  have h2 := row_dep c.2.2.2
  unfold clD
  rw [dep]
  refine Nat.succ_le_succ (depAll_le.mpr fun y hy => ?_)
  simp at hy
  rcases hy with rfl | rfl | rfl | rfl
  · exact Nat.zero_le _
  · exact Nat.zero_le _
  · exact h1
  · exact h2
theorem cls_gd {cl : List Cl} (l : cl.length ≤ 1000) (h : ∀ c ∈ cl, c.1 ≤ 1000 ∧ c.2.1 ≤ 1000 ∧ okRow c.2.2.1 ∧ okRow c.2.2.2) : gd (.tup (cl.map clD)) = true ∧ dep (.tup (cl.map clD)) ≤ 3 := by
  refine ⟨gd_tup.mpr ⟨by simp; omega, fun y hy => ?_⟩, ?_⟩
  · obtain ⟨c, hc, rfl⟩ := List.mem_map.mp hy
    exact cl_gd (h c hc)
  · rw [dep]
    refine Nat.succ_le_succ (depAll_le.mpr fun y hy => ?_)
    obtain ⟨c, hc, rfl⟩ := List.mem_map.mp hy
    exact cl_dep c
theorem rd_merged : ∀ ds M Q E, sp_merged0 ds M Q E → ds.length = 3 ∧ r_merged E sp_check sp_mrows { nx := fun _ M' => Q .non M', rt := Q } (dstart N_merged ds) M := by
  rintro _ M Q E (⟨x, y, z, rfl, hx, hy, hz, q⟩ | ⟨u, v, w, rfl, ⟨a, rfl, ha, g, hb, e⟩ | ⟨a, b, rfl, ha, rfl, hb, g, hw, e⟩⟩)
  · refine ⟨rfl, ?_⟩
    refine ⟨_, rfl, .inl ⟨x, rfl, hx, ?_⟩⟩
    refine ⟨_, rfl, .inl ⟨y, rfl, hy, ?_⟩⟩
    refine ⟨_, rfl, .inl ⟨z, rfl, hz, ?_⟩⟩
    refine ⟨_, rfl, _, rfl, _, rfl, x, y, z, rfl, hx, hy, hz, fun M' sub => ?_⟩
    refine ⟨_, rfl, rfl, _, _, rfl, _, _, rfl, rfl, ?_⟩
    have sm := mrun_sm hx hy hz
    obtain ⟨g, d⟩ := cls_gd (Nat.le_trans sm.c (by omega)) sm.ct
    dsimp only
    refine ret_ (d := mres x y z) (tv_if (tb_b (tv_unit g (by omega) (tv_slot rfl))) (fun hc => ?_) fun hc => ?_) (q M' sub)
    · have : (mrun x y z).2.1 = [] := by simpa using hc
      unfold mres
      rw [if_pos this]
      exact tv_tup2 tv_c (tv_slot rfl)
    · have : ¬ (mrun x y z).2.1 = [] := by simpa using hc
      unfold mres
      rw [if_neg this]
      exact tv_tup2 tv_c (tv_slot rfl)
  · refine ⟨rfl, ?_⟩
    refine ⟨_, rfl, .inl ⟨a, rfl, ha, ?_⟩⟩
    exact ⟨_, rfl, .inr ⟨v, rfl, g, hb, e⟩⟩
  · refine ⟨rfl, ?_⟩
    refine ⟨_, rfl, .inl ⟨a, rfl, ha, ?_⟩⟩
    refine ⟨_, rfl, .inl ⟨b, rfl, hb, ?_⟩⟩
    exact ⟨_, rfl, .inr ⟨w, rfl, g, hw, e⟩⟩
end K90

set_option maxHeartbeats 4000000
/-! K90k: _law_common: all chains, level by level. -/
namespace K90
open PySem PySem.Spec DL KB
open L2 (atI ixN)
open PyProof.Rows hiding St signs
variable {a b : Row}
/-! ### chains, by their ends -/
def endF : Nat → Nat → Ch → Nat × Nat
  | i, j, [] => (i, j)
  | _, _, x :: r => endF (x.1 + 1) (x.2 + 1) r
theorem endF_snoc (x : Nat × Nat) : ∀ (c : Ch) (i j : Nat), endF i j (c ++ [x]) = (x.1 + 1, x.2 + 1)
  | [], _, _ => rfl
  | y :: c, i, j => endF_snoc x c (y.1 + 1) (y.2 + 1)
theorem isCh_snoc (x : Nat × Nat) : ∀ (c : Ch) (i j : Nat), isCh a b i j (c ++ [x]) ↔ isCh a b i j c ∧ (endF i j c).1 ≤ x.1 ∧ (endF i j c).2 ≤ x.2 ∧ x.1 < a.length ∧ x.2 < b.length ∧ a[x.1]? = b[x.2]?
  | [], i, j => by
    show (_ ∧ _ ∧ _ ∧ _ ∧ _ ∧ True) ↔ (True ∧ _)
    simp [endF]
  | y :: c, i, j => by
    show (_ ∧ _ ∧ _ ∧ _ ∧ _ ∧ isCh a b (y.1 + 1) (y.2 + 1) (c ++ [x])) ↔ _
    rw [isCh_snoc x c]
    show _ ↔ (_ ∧ _ ∧ _ ∧ _ ∧ _ ∧ isCh a b (y.1 + 1) (y.2 + 1) c) ∧ _
    constructor
    · rintro ⟨h1, h2, h3, h4, h5, h6, h7⟩; exact ⟨⟨h1, h2, h3, h4, h5, h6⟩, h7⟩
    · rintro ⟨⟨h1, h2, h3, h4, h5, h6⟩, h7⟩; exact ⟨h1, h2, h3, h4, h5, h6, h7⟩
theorem end_len : ∀ {c : Ch} {i j : Nat}, isCh a b i j c → i + c.length ≤ (endF i j c).1 ∧ j + c.length ≤ (endF i j c).2
  | [], i, j, _ => ⟨Nat.le_refl _, Nat.le_refl _⟩
  | x :: r, i, j, ⟨h1, h2, h3, h4, h5, h6⟩ => by
    have := end_len h6
    show i + (r.length + 1) ≤ (endF (x.1 + 1) (x.2 + 1) r).1 ∧ j + (r.length + 1) ≤ (endF (x.1 + 1) (x.2 + 1) r).2
    omega
theorem ch_take : ∀ {c d : Ch} {i j : Nat}, isCh a b i j (c ++ d) → isCh a b i j c
  | [], _, _, _, _ => trivial
  | x :: c, d, i, j, ⟨h1, h2, h3, h4, h5, h6⟩ => ⟨h1, h2, h3, h4, h5, ch_take h6⟩
/-! ### the levels -/
def rowO (a b : Row) (j p : Nat) : List Nat := (List.range' j (b.length - j)).filter fun q => decide (a[p]? = b[q]?)
def opts (a b : Row) (i j : Nat) : List Nat → Ch
  | [] => []
  | p :: ps => (rowO a b j p).map (fun q => (p, q)) ++ opts a b i j ps
def ext (a b : Row) (c : Ch) : List Ch := (opts a b (endF 0 0 c).1 (endF 0 0 c).2 (List.range' (endF 0 0 c).1 (a.length - (endF 0 0 c).1))).map fun x => c ++ [x]
def lev (a b : Row) : Nat → List Ch
  | 0 => [[]]
  | k + 1 => (lev a b k).flatMap (ext a b)
theorem opts_mem {i j : Nat} {x : Nat × Nat} : ∀ {ps : List Nat}, x ∈ opts a b i j ps ↔ x.1 ∈ ps ∧ x.2 ∈ rowO a b j x.1
  | [] => by simp [opts]
  | p :: ps => by
    rw [opts, List.mem_append, opts_mem (ps := ps), List.mem_map, List.mem_cons]
    constructor
    · rintro (⟨q, hq, rfl⟩ | ⟨h1, h2⟩)
      · exact ⟨.inl rfl, hq⟩
      · exact ⟨.inr h1, h2⟩
    · rintro ⟨rfl | h1, h2⟩
      · exact .inl ⟨x.2, h2, rfl⟩
      · exact .inr ⟨h1, h2⟩
theorem rowO_mem {j p q : Nat} : q ∈ rowO a b j p ↔ j ≤ q ∧ q < b.length ∧ a[p]? = b[q]? := by
  unfold rowO
  rw [List.mem_filter, List.mem_range'_1, decide_eq_true_eq]
  constructor
  · rintro ⟨h1, h2⟩; exact ⟨h1.1, by omega, h2⟩
  · rintro ⟨h1, h2, h3⟩; exact ⟨⟨h1, by omega⟩, h3⟩
theorem ext_mem {c d : Ch} (h : isCh a b 0 0 c) : d ∈ ext a b c ↔ ∃ x, d = c ++ [x] ∧ isCh a b 0 0 (c ++ [x]) := by
  unfold ext
  rw [List.mem_map]
  constructor
  · rintro ⟨x, hx, rfl⟩
    obtain ⟨h1, h2⟩ := opts_mem.mp hx
    obtain ⟨h3, h4, h5⟩ := rowO_mem.mp h2
    rw [List.mem_range'_1] at h1
    exact ⟨x, rfl, (isCh_snoc x c 0 0).mpr ⟨h, h1.1, h3, by omega, h4, h5⟩⟩
  · rintro ⟨x, rfl, hx⟩
    obtain ⟨_, h1, h2, h3, h4, h5⟩ := (isCh_snoc x c 0 0).mp hx
    exact ⟨x, opts_mem.mpr ⟨List.mem_range'_1.mpr ⟨h1, by omega⟩, rowO_mem.mpr ⟨h2, h4, h5⟩⟩, rfl⟩
theorem lev_mem : ∀ {k : Nat} {c : Ch}, c ∈ lev a b k ↔ isCh a b 0 0 c ∧ c.length = k
  | 0, c => by
    rw [lev, List.mem_singleton]
    constructor
    · rintro rfl; exact ⟨trivial, rfl⟩
    · rintro ⟨_, h⟩; exact List.length_eq_zero_iff.mp h
  | k + 1, c => by
    rw [lev, List.mem_flatMap]
    constructor
    · rintro ⟨d, hd, hc⟩
      obtain ⟨h1, h2⟩ := lev_mem.mp hd
      obtain ⟨x, rfl, hx⟩ := (ext_mem h1).mp hc
      exact ⟨hx, by simp [h2]⟩
    · rintro ⟨h, hl⟩
      rcases List.eq_nil_or_concat c with rfl | ⟨d, x, rfl⟩
      · simp at hl
      · rw [List.concat_eq_append] at h hl ⊢
        have hd := ((isCh_snoc x d 0 0).mp h).1
        exact ⟨d, lev_mem.mpr ⟨hd, by simpa using hl⟩, (ext_mem hd).mpr ⟨x, rfl, h⟩⟩
/-! ### no level is large -/
def bnd : Nat → Nat
  | 0 => 1
  | k + 1 => bnd k * ((6 - k) * (6 - k))
theorem bnd_le (k : Nat) : bnd k ≤ 518400 := by
  by_cases h : k ≤ 6
  · match k, h with
    | 0, _ => decide
    | 1, _ => decide
    | 2, _ => decide
    | 3, _ => decide
    | 4, _ => decide
    | 5, _ => decide
    | 6, _ => decide
    | n + 7, h => omega
  · have : ∀ n, bnd (n + 7) = 0 := fun n => by
      induction n with
      | zero => decide
      | succ n ih =>
        show bnd (n + 7) * _ = 0
        rw [ih, Nat.zero_mul]
    obtain ⟨n, rfl⟩ : ∃ n, k = n + 7 := ⟨k - 7, by omega⟩
    rw [this]; omega
theorem opts_len (i j : Nat) : ∀ ps : List Nat, (opts a b i j ps).length ≤ ps.length * (b.length - j)
  | [] => by simp [opts]
  | p :: ps => by
    rw [opts, List.length_append, List.length_map, List.length_cons, Nat.succ_mul]
    have h1 := opts_len i j ps
    have h2 : (rowO a b j p).length ≤ b.length - j := by
      unfold rowO
      exact Nat.le_trans (List.length_filter_le _ _) (by simp)
    omega
theorem ext_len {c : Ch} {k : Nat} (la : a.length ≤ 6) (lb : b.length ≤ 6) (h : isCh a b 0 0 c) (hk : c.length = k) : (ext a b c).length ≤ (6 - k) * (6 - k) := by
  unfold ext
  rw [List.length_map]
  refine Nat.le_trans (opts_len _ _ _) ?_
  rw [List.length_range']
  have := end_len h
  exact Nat.mul_le_mul (by omega) (by omega)
theorem flat_len {k : Nat} (la : a.length ≤ 6) (lb : b.length ≤ 6) : ∀ L : List Ch, (∀ c ∈ L, isCh a b 0 0 c ∧ c.length = k) → (L.flatMap (ext a b)).length ≤ L.length * ((6 - k) * (6 - k))
  | [], _ => by simp
  | c :: L, h => by
    rw [List.flatMap_cons, List.length_append, List.length_cons, Nat.succ_mul]
    have h1 := flat_len la lb L fun d hd => h d (List.mem_cons_of_mem _ hd)
    have h2 := ext_len la lb (h c List.mem_cons_self).1 (h c List.mem_cons_self).2
    omega
theorem lev_len (la : a.length ≤ 6) (lb : b.length ≤ 6) : ∀ k, (lev a b k).length ≤ bnd k
  | 0 => Nat.le_refl _
  | k + 1 => Nat.le_trans (flat_len la lb (lev a b k) fun c hc => lev_mem.mp hc) (Nat.mul_le_mul_right _ (lev_len la lb k))
/-! ### the last level -/
theorem lev_some {k : Nat} (h : lev a b k ≠ []) : k ≤ lc a b 0 0 := by
  cases e : lev a b k with
  | nil => exact absurd e h
  | cons c L =>
    obtain ⟨h1, h2⟩ := lev_mem.mp (show c ∈ lev a b k by rw [e]; simp)
    rw [← h2]
    exact ch_le h1
theorem lev_last {k : Nat} (h : lev a b k ≠ []) (n : lev a b (k + 1) = []) : k = lc a b 0 0 := by
  have h1 := lev_some h
  by_cases e : k < lc a b 0 0
  · exfalso
    obtain ⟨g1, g2⟩ := gr_ch (a := a) (b := b) (i := 0) (j := 0) rfl
    have g3 : isCh a b 0 0 ((gr a b (lc a b 0 0) 0 0).take (k + 1)) := ch_take (d := (gr a b (lc a b 0 0) 0 0).drop (k + 1)) (by rw [List.take_append_drop]; exact g1)
    have : (gr a b (lc a b 0 0) 0 0).take (k + 1) ∈ lev a b (k + 1) := lev_mem.mpr ⟨g3, by rw [List.length_take, g2]; omega⟩
    rw [n] at this
    cases this
  · omega
theorem ltC_lt : ∀ {c d : Ch}, ltC c d → PySem.W.listLt (c.map fun x => ((x.1 : Int), (x.2 : Int))) (d.map fun x => ((x.1 : Int), (x.2 : Int))) = true ∧ PySem.W.listLt (d.map fun x => ((x.1 : Int), (x.2 : Int))) (c.map fun x => ((x.1 : Int), (x.2 : Int))) = false
  | x :: c, y :: d, h => by
    rw [List.map_cons, List.map_cons, PySem.W.listLt, PySem.W.listLt]
    rcases h with h | ⟨rfl, h⟩
    · have ne : ¬ (((x.1 : Int), (x.2 : Int)) = ((y.1 : Int), (y.2 : Int))) := fun e => by
        injection e with e1 e2
        unfold ltP at h
        omega
      rw [if_neg ne, if_neg (fun e => ne e.symm)]
      show (if (x.1 : Int) = (y.1 : Int) then decide ((x.2 : Int) < (y.2 : Int)) else decide ((x.1 : Int) < (y.1 : Int))) = true ∧ (if (y.1 : Int) = (x.1 : Int) then decide ((y.2 : Int) < (x.2 : Int)) else decide ((y.1 : Int) < (x.1 : Int))) = false
      unfold ltP at h
      by_cases e : x.1 = y.1
      · rw [if_pos (by omega), if_pos (by omega), decide_eq_true_eq, decide_eq_false_iff_not]
        omega
      · rw [if_neg (by omega), if_neg (by omega), decide_eq_true_eq, decide_eq_false_iff_not]
        omega
    · rw [if_pos rfl, if_pos rfl]
      exact ltC_lt h
  | [], _, h => h.elim
  | _ :: _, [], h => h.elim
abbrev TT := PySem.W.Tup (Int × Int)
def toT (c : Ch) : TT := ⟨c.map fun x => ((x.1 : Int), (x.2 : Int))⟩
theorem toT_inj {c d : Ch} (h : toT c = toT d) : c = d := by
  injection h with h
  have f : ∀ x y : Nat × Nat, ((x.1 : Int), (x.2 : Int)) = ((y.1 : Int), (y.2 : Int)) → x = y := fun x y e => by
    injection e with e1 e2
    exact Prod.ext (by omega) (by omega)
  have go : ∀ (c d : Ch), (c.map fun x => ((x.1 : Int), (x.2 : Int))) = (d.map fun x => ((x.1 : Int), (x.2 : Int))) → c = d := by
    intro c
    induction c with
    | nil => intro d h; cases d with
      | nil => rfl
      | cons => cases h
    | cons x c ih => intro d h; cases d with
      | nil => cases h
      | cons y d =>
        rw [List.map_cons, List.map_cons] at h
        injection h with h1 h2
        rw [f x y h1, ih d h2]
  exact go c d h
theorem fold_min {α : Type} (lt : α → α → Bool) (g : α) : ∀ (xs : List α) (x : α), (∀ z ∈ x :: xs, z = g ∨ (lt g z = true ∧ lt z g = false)) → lt g g = false → g ∈ x :: xs → xs.foldl (fun a y => if lt y a = true then y else a) x = g
  | [], x, _, _, h => by simp at h; exact h.symm
  | y :: xs, x, hz, hg, h => by
    rw [List.foldl_cons]
    by_cases e : lt y x = true
    · rw [if_pos e]
      refine fold_min lt g xs y (fun z h => hz z (List.mem_cons_of_mem _ h)) hg ?_
      rcases List.mem_cons.mp h with rfl | h
      · rcases hz y (by simp) with rfl | ⟨_, h2⟩
        · rw [hg] at e; cases e
        · rw [h2] at e; cases e
      · exact h
    · rw [if_neg e]
      refine fold_min lt g xs x (fun z h => hz z (by rcases List.mem_cons.mp h with rfl | h; · simp
                                                     · simp [h])) hg ?_
      rcases List.mem_cons.mp h with rfl | h
      · simp
      · rcases List.mem_cons.mp h with rfl | h
        · rcases hz x (by simp) with rfl | ⟨h1, _⟩
          · simp
          · exact absurd h1 e
        · simp [h]
theorem lt_self (c : Ch) : PySem.W.listLt (c.map fun x => ((x.1 : Int), (x.2 : Int))) (c.map fun x => ((x.1 : Int), (x.2 : Int))) = false := by
  induction c with
  | nil => rfl
  | cons x c ih => rw [List.map_cons, PySem.W.listLt, if_pos rfl]; exact ih
/-- the least of the last level -/
theorem lev_min {k : Nat} {c : Ch} {L : List Ch} (e : lev a b k = c :: L) (hk : k = lc a b 0 0) : PySem.W.minOf (toT c) (L.map toT) = toT (grA a b) := by
  have mem : ∀ d, d ∈ c :: L ↔ isCh a b 0 0 d ∧ d.length = k := fun d => by rw [← e]; exact lev_mem
  obtain ⟨g1, g2⟩ := gr_ch (a := a) (b := b) (i := 0) (j := 0) rfl
  have gm : grA a b ∈ c :: L := (mem _).mpr ⟨g1, by rw [hk]; exact g2⟩
  unfold PySem.W.minOf
  refine fold_min (PySem.W.DatumOrd.lt (α := TT)) (toT (grA a b)) (L.map toT) (toT c) (fun z hz => ?_) (lt_self _) ?_
  · rw [← List.map_cons] at hz
    obtain ⟨d, hd, rfl⟩ := List.mem_map.mp hz
    obtain ⟨h1, h2⟩ := (mem d).mp hd
    rcases gr_least rfl h1 (by rw [h2, hk]) with h | h
    · exact .inl (by rw [← h]; rfl)
    · exact .inr (ltC_lt h)
  · rw [← List.map_cons]
    exact List.mem_map.mpr ⟨_, gm, rfl⟩
end K90

set_option maxHeartbeats 4000000
/-! K90l: _law_common, read. -/
namespace K90
open PySem PySem.Spec DL KB
open L2 (atI ixN)
open PyProof.Rows hiding St signs
variable {a b : Row}
def pvX (x : Nat × Nat) : DL.D := .tupx [.int (x.1 : Nat), .int (x.2 : Nat)]
def chX (c : Ch) : DL.D := .tupx (c.map pvX)
abbrev tD (c : Ch) : PyData := PySem.W.Datum.toD (toT c)
theorem pvX_py : ∀ c : Ch, pyAll (c.map pvX) = some ((c.map fun x => ((x.1 : Int), (x.2 : Int))).map PySem.W.Datum.toD)
  | [] => rfl
  | x :: c => by
    rw [List.map_cons, pyAll, pvX_py c]
    rfl
theorem chX_py (c : Ch) : (chX c).py = some (tD c) := by
  unfold chX
  rw [D.py, pvX_py]
  rfl
theorem chsX_py : ∀ L : List Ch, pyAll (L.map chX) = some (L.map tD)
  | [] => rfl
  | c :: L => by
    rw [List.map_cons, pyAll, chX_py, chsX_py L]
    rfl
theorem tD_lay (c : Ch) : (tD c).canLay0 = true := by
  show PyData.canLay0 (.tuple _) = true
  rw [PyData.canLay0]
  show PyData.canLayAll0 ((c.map fun x => ((x.1 : Int), (x.2 : Int))).map PySem.W.Datum.toD) = true
  induction c with
  | nil => rfl
  | cons x c ih =>
    rw [List.map_cons, List.map_cons, PyData.canLayAll0, ih]
    rfl
theorem tDs_lay : ∀ L : List Ch, PyData.canLayAll0 (L.map tD) = true
  | [] => rfl
  | c :: L => by rw [List.map_cons, PyData.canLayAll0, tD_lay, tDs_lay L]; rfl
theorem tDs_dep (L : List Ch) : PyData.depthAll (L.map tD) ≤ 3 := by
  have := PySem.W.depthAll_map (α := TT) (L.map toT)
  rw [List.map_map] at this
  exact Nat.le_trans this (by decide)
theorem tD_shaped (c : Ch) : SeqAt.shaped (tD c) = true := by
  unfold SeqAt.shaped
  have h := PySem.W.Datum.depth_le (toT c)
  rw [tD_lay, Bool.true_and, decide_eq_true_eq]
  exact Nat.le_trans h (by decide)
theorem tD_inj {c d : Ch} (h : tD c = tD d) : c = d := by
  have h1 := PySem.W.Datum.eqv (toT c) (toT d)
  have h2 := PySem.W.Datum.eqv (toT d) (toT d)
  rw [show (PySem.W.Datum.toD (toT c)) = PySem.W.Datum.toD (toT d) from h, h2] at h1
  rw [decide_eq_true rfl] at h1
  exact toT_inj (of_decide_eq_true h1.symm)
theorem eqv_nil_tup (ps : List PyData) : PyData.eqv (.tuple ps) (.tuple []) = ps.isEmpty := by
  cases ps with
  | nil => rfl
  | cons p ps => rfl
theorem eqv_nil_lst (ps : List PyData) : PyData.eqv (.list ps) (.list []) = ps.isEmpty := by
  cases ps with
  | nil => rfl
  | cons p ps => rfl
theorem tv_neX {t : DTE} {ρ : Rho} {M : Mp} {c : Ch} (h : TV t ρ M (chX c)) : TV (dOp (rEqD2 true) t (dTupX dNil)) ρ M (.bl (!c.isEmpty)) := fun Q q => h _ ⟨small (by simp), by
  refine ⟨tD c, .tuple [], chX_py c, rfl, tD_shaped c, by decide, ?_⟩
  rw [if_pos rfl]
  have : PyData.eqv (tD c) (.tuple []) = c.isEmpty := by
    show PyData.eqv (.tuple _) (.tuple []) = _
    rw [eqv_nil_tup]
    show ((c.map fun x => ((x.1 : Int), (x.2 : Int))).map PySem.W.Datum.toD).isEmpty = c.isEmpty
    cases c <;> rfl
  rw [this]
  exact q⟩
theorem tv_ixX {t u : DTE} {ρ : Rho} {M : Mp} {xs : List DL.D} {i : Int} {d : DL.D} (e : atI xs i = some d) (h : TV t ρ M (.tupx xs)) (k : TV u ρ M (.int i)) : TV (dOp rIxD t u) ρ M d := fun Q q => h _ (k _ ⟨_, _, rfl, e, q⟩)
theorem tv_addI {t u : DTE} {ρ : Rho} {M : Mp} {x y : Int} {fz : Bool} (h : TV t ρ M (.int x)) (k : TV u ρ M (.int y)) : TV (dOp (rAddX fz) t u) ρ M (.int (x + y)) := fun Q q => h _ (k _ (.inr q))
theorem tv_addX {t u : DTE} {ρ : Rho} {M : Mp} {xs ys : List DL.D} {fz : Bool} (l : xs.length + ys.length ≤ 100000) (h : TV t ρ M (.tupx xs)) (k : TV u ρ M (.tupx ys)) : TV (dOp (rAddX fz) t u) ρ M (.tupx (xs ++ ys)) := fun Q q => h _ (k _ (.inl ⟨_, _, rfl, rfl, small l, q⟩))
theorem tv_neg {t : DTE} {ρ : Rho} {M : Mp} {x : Int} (h : TV t ρ M (.int x)) : TV (dNeg t) ρ M (.int (-x)) := fun Q q => h _ ⟨_, rfl, q⟩
theorem tv_tupx0 {ρ : Rho} {M : Mp} : TV (dTupX dNil) ρ M (.tupx []) := fun Q q => ⟨small (by simp), q⟩
theorem tv_tupx1 {t : DTE} {ρ : Rho} {M : Mp} {x : DL.D} (h : TV t ρ M x) : TV (dTupX (dCons t dNil)) ρ M (.tupx [x]) := fun Q q => h _ ⟨small (by simp), q⟩
theorem tv_tupx2 {t u : DTE} {ρ : Rho} {M : Mp} {x y : DL.D} (h : TV t ρ M x) (k : TV u ρ M y) : TV (dTupX (dCons t (dCons u dNil))) ρ M (.tupx [x, y]) := fun Q q => h _ (k _ ⟨small (by simp), q⟩)
theorem opts_snoc (i j p : Nat) : ∀ ps : List Nat, opts a b i j (ps ++ [p]) = opts a b i j ps ++ (rowO a b j p).map fun q => (p, q)
  | [] => by simp [opts]
  | x :: ps => by
    show (rowO a b j x).map _ ++ opts a b i j (ps ++ [p]) = (_ ++ _) ++ _
    rw [opts_snoc i j p ps, List.append_assoc]
theorem opts_app (i j : Nat) : ∀ ps qs : List Nat, opts a b i j (ps ++ qs) = opts a b i j ps ++ opts a b i j qs
  | [], _ => rfl
  | x :: ps, qs => by
    show (rowO a b j x).map _ ++ opts a b i j (ps ++ qs) = (_ ++ _) ++ _
    rw [opts_app i j ps qs, List.append_assoc]
theorem asgn_ {t : DTE} {i : Nat} {D : DEnds} {ρ : Rho} {M : Mp} {d : DL.D} (h : TV t ρ M d) (q : D.nx (ρ.set i (some d)) M) : dAsg t (dgName i) D ρ M := h _ q
def sp_lcommon0 : DS1 := fun ds M Q => ∃ a b : Row, ds = [R a, R b] ∧ a.length ≤ 6 ∧ b.length ≤ 6 ∧ ∀ M', SubM M M' → Q (chX (grA a b)) M'
def sp_lcommon : DS1 := fun ds M Q => ∃ a b : Row, ds = [R a, R b] ∧ a.length ≤ 6 ∧ b.length ≤ 6 ∧ Q (chX (grA a b)) M
theorem wk_lcommon : ∀ ds M Q, sp_lcommon ds M Q → sp_lcommon0 ds M fun d M1 => ∃ M2, SubM M2 M1 ∧ Q d M2 :=
  fun _ M _ ⟨a, b, e, la, lb, q⟩ => ⟨a, b, e, la, lb, fun _ s => ⟨M, s, q⟩⟩
theorem rd_lcommon : ∀ ds M Q, sp_lcommon0 ds M Q → ds.length = 2 ∧ r__law_common { nx := fun _ M' => Q .non M', rt := Q } (dstart N__law_common ds) M := by
  rintro _ M Q ⟨a, b, rfl, la, lb, q⟩
  refine ⟨rfl, ?_⟩
  refine ⟨small (by simp), small (by simp), fun p0 hp0 => ?_⟩
  refine ⟨fun m ρ M' => ∃ k p x3 x4 x5 x6 x7 x8, ρ = [some (R a), some (R b), some (.ref p), x3, x4, x5, x6, x7, x8] ∧ SubM M M' ∧ M p = none ∧ M' p = some (.lst ((lev a b k).map chX)) ∧ lev a b k ≠ [] ∧ m = lc a b 0 0 + 1 - k,
    ⟨_, 0, p0, none, none, none, none, none, none, rfl, (SubM.refl M).mu hp0 _, hp0, by rw [mu_same]; rfl, by simp [lev], rfl⟩, ?_⟩
  rintro m ρ M' ⟨k, p, x3, x4, x5, x6, x7, x8, rfl, sub, hp, ep, ne, rfl⟩
  refine ⟨_, rfl, iteT ?_⟩
  have kl := lev_some ne
  refine ⟨_, fun _ _ h => h, ?_⟩
  refine ⟨Nat.zero_le _, fun r hr => ?_⟩
  have hr0 : M r = none := SubM.none sub hr
  have nrp : r ≠ p := by rintro rfl; rw [hr] at ep; cases ep
  have tot : ((lev a b k).flatMap (ext a b)).length ≤ 518400 := Nat.le_trans (lev_len la lb (k + 1)) (bnd_le _)
  refine ⟨_, rfl, _, by rw [mu_ne nrp.symm]; exact ep, ?_⟩
  refine for_pre chX (lev a b k) (fun pre ρ M'' => ∃ x4 x5 x6 x7 x8, ρ = [some (R a), some (R b), some (.ref p), some (.ref r), x4, x5, x6, x7, x8] ∧ SubM M M'' ∧ M'' p = some (.lst ((lev a b k).map chX)) ∧ M'' r = some (.lst ((pre.flatMap (ext a b)).map chX))) (fun _ _ _ ⟨_, _, _, _, _, _, _, h, _⟩ => h) ?_ ?_ _ [] _ _ rfl
    ⟨_, _, _, _, _, rfl, sub.mu hr0 _, by rw [mu_ne nrp.symm]; exact ep, by rw [mu_same]; rfl⟩
  · rintro pre c suf e ρ M1 ⟨x4, x5, x6, x7, x8, rfl, sub1, ep1, er1⟩ N next
    obtain ⟨hc, hcl⟩ := lev_mem.mp (show c ∈ lev a b k by rw [← e]; simp)
    obtain ⟨i, j, eij⟩ : ∃ i j, endF 0 0 c = (i, j) := ⟨_, _, rfl⟩
    have s4 : ∀ {x5 x6 x7 x8 : Option DL.D} {M : Mp}, TV (dSlot 4) [some (R a), some (R b), some (.ref p), some (.ref r), some (chX c), x5, x6, x7, x8] M (chX c) := fun {x5 x6 x7 x8 M} => tv_slot rfl
    refine seq_ (asg_ (d := .tupx [.int ((i : Int) - 1), .int ((j : Int) - 1)]) (tv_if (tb_b (tv_neX s4)) (fun h => ?_) fun h => ?_) ?_)
    · rcases List.eq_nil_or_concat c with rfl | ⟨c', x, ec⟩
      · simp at h
      · rw [List.concat_eq_append] at ec
        subst ec
        rw [endF_snoc] at eij
        cases eij
        have ea : atI ((c' ++ [x]).map pvX) (-1) = some (pvX x) := by
          rw [List.map_append]
          exact L2.atI_last _ _
        have := tv_ixX ea (s4 (x5 := x5) (x6 := x6) (x7 := x7) (x8 := x8) (M := M1)) (tv_neg tv_c)
        unfold pvX at this
        rw [show (((x.1 + 1 : Nat) : Int) - 1) = (x.1 : Nat) by omega, show (((x.2 + 1 : Nat) : Int) - 1) = (x.2 : Nat) by omega]
        exact this
    · have : c = [] := by simpa using h
      subst this
      cases eij
      exact tv_tupx2 (tv_neg tv_c) (tv_neg tv_c)
    have s5 : ∀ {x6 x7 x8 : Option DL.D} {M : Mp}, TV (dSlot 5) [some (R a), some (R b), some (.ref p), some (.ref r), some (chX c), some (.tupx [.int ((i : Int) - 1), .int ((j : Int) - 1)]), x6, x7, x8] M (.tupx [.int ((i : Int) - 1), .int ((j : Int) - 1)]) := fun {x6 x7 x8 M} => tv_slot rfl
    have ai : ∀ {x6 x7 x8 : Option DL.D} {M : Mp}, TV (dOp (rAddX true) (dOp rIxD (dSlot 5) (dC (.int 0))) (dC (.int 1))) [some (R a), some (R b), some (.ref p), some (.ref r), some (chX c), some (.tupx [.int ((i : Int) - 1), .int ((j : Int) - 1)]), x6, x7, x8] M (.int (i : Nat)) := fun {x6 x7 x8 M} => by
      have := tv_addI (fz := true) (tv_ixX ix0 (s5 (x6 := x6) (x7 := x7) (x8 := x8) (M := M)) (tv_c (d := .int 0))) (tv_c (d := .int 1))
      rw [show (i : Int) - 1 + 1 = i by omega] at this
      exact this
    have aj : ∀ {x6 x7 x8 : Option DL.D} {M : Mp}, TV (dOp (rAddX true) (dOp rIxD (dSlot 5) (dC (.int 1))) (dC (.int 1))) [some (R a), some (R b), some (.ref p), some (.ref r), some (chX c), some (.tupx [.int ((i : Int) - 1), .int ((j : Int) - 1)]), x6, x7, x8] M (.int (j : Nat)) := fun {x6 x7 x8 M} => by
      have := tv_addI (fz := true) (tv_ixX ix1 (s5 (x6 := x6) (x7 := x7) (x8 := x8) (M := M)) (tv_c (d := .int 1))) (tv_c (d := .int 1))
      rw [show (j : Int) - 1 + 1 = j by omega] at this
      exact this
    have eext : ext a b c = (opts a b i j (List.range' i (a.length - i))).map fun x => c ++ [x] := by unfold ext; rw [eij]
    have ij : i ≤ 100 ∧ j ≤ 100 := by
      have : (endF 0 0 c).1 ≤ 7 ∧ (endF 0 0 c).2 ≤ 7 := by
        rcases List.eq_nil_or_concat c with rfl | ⟨c', x, rfl⟩
        · exact ⟨by simp [endF], by simp [endF]⟩
        · rw [List.concat_eq_append] at hc ⊢
          rw [endF_snoc]
          obtain ⟨_, _, _, h3, h4, _⟩ := (isCh_snoc x c' 0 0).mp hc
          exact ⟨by dsimp only; omega, by dsimp only; omega⟩
      rw [eij] at this
      exact ⟨by have := this.1; dsimp only at this; omega, by have := this.2; dsimp only at this; omega⟩
    refine ai _ ⟨_, rfl, ?_⟩
    refine ⟨_, rfl, _, _, rfl, rfl, ⟨by omega, by omega, by rw [R_len]; omega, by rw [R_len]; omega⟩, ?_⟩
    rw [R_len, show ((a.length : Int) - (i : Nat)).toNat = a.length - i by omega, rgD_nat]
    refine for_pre _ (List.range' i (a.length - i)) (fun pre2 ρ M'' => ∃ x6 x7 x8, ρ = [some (R a), some (R b), some (.ref p), some (.ref r), some (chX c), some (.tupx [.int ((i : Int) - 1), .int ((j : Int) - 1)]), x6, x7, x8] ∧ SubM M M'' ∧ M'' p = some (.lst ((lev a b k).map chX)) ∧ M'' r = some (.lst ((pre.flatMap (ext a b) ++ (opts a b i j pre2).map fun x => c ++ [x]).map chX))) (fun _ _ _ _ => trivial) ?_ ?_ _ [] _ _ rfl
      ⟨_, _, _, rfl, sub1, ep1, by rw [er1]; simp [opts]⟩
    · rintro pre2 z suf2 e2 ρ M2 ⟨x6, x7, x8, rfl, sub2, ep2, er2⟩ N next2
      have hz : i ≤ z ∧ z < a.length := by
        have : z ∈ List.range' i (a.length - i) := by rw [← e2]; simp
        rw [List.mem_range'_1] at this
        omega
      refine seq_ (asgn_ (d := .lst ((rowO a b j z).map fun q => .int (q : Nat))) (fun Q q => ?_) ?_)
      · refine aj _ ⟨_, rfl, ?_⟩
        refine ⟨_, rfl, _, _, rfl, rfl, ⟨by omega, by omega, by rw [R_len]; omega, by rw [R_len]; omega⟩, ?_⟩
        rw [R_len, show ((b.length : Int) - (j : Nat)).toNat = b.length - j by omega, rgD_nat]
        refine lc_flt (fun q : Nat => DL.D.int (q : Nat)) (fun q => decide (a[z]? = b[q]?)) (fun q => .int (q : Nat)) trivial (List.range' j (b.length - j)) [] (fun y hy K1 K2 h1 h2 => ?_) (small (by simp; omega)) (newTr q)
        rw [List.mem_range'_1] at hy
        refine rows_eq (a := a) (b := b) (i := z) (j := y) hz.2 (by omega) (fun Q q => ⟨_, rfl, q⟩) (fun Q q => ⟨_, rfl, q⟩) (fun Q q => ⟨_, rfl, q⟩) (fun Q q => ⟨_, rfl, q⟩) ?_
        refine ⟨_, rfl, ?_⟩
        cases hb : decide (a[z]? = b[y]?) with
        | true => exact iteT ⟨_, rfl, h1 hb⟩
        | false => exact iteF (h2 hb)
      · dsimp only
        refine drop_ ?_
        have lnew : ((pre.flatMap (ext a b) ++ (opts a b i j pre2).map fun x => c ++ [x]).map chX).length + ((rowO a b j z).map fun q => chX (c ++ [(z, q)])).length ≤ sizeLine := by
          rw [sizeLine_eq]
          have h1 := congrArg (fun L => (L.flatMap (ext a b)).length) e
          rw [List.flatMap_append, List.flatMap_cons, List.length_append, List.length_append, eext, List.length_map, ← e2, opts_app, List.length_append] at h1
          have h2 : (opts a b i j (z :: suf2)).length = (rowO a b j z).length + (opts a b i j suf2).length := by
            show ((rowO a b j z).map _ ++ opts a b i j suf2).length = _
            rw [List.length_append, List.length_map]
          simp only [List.length_map, List.length_append]
          omega
        refine ⟨_, rfl, by show (mol (M2 r)).isSome = true; rw [er2]; rfl, ?_⟩
        refine ⟨_, rfl, ?_⟩
        have hcl6 : c.length ≤ 6 := by have := ch_len hc; omega
        refine lc_pure (fun q : Nat => DL.D.int (q : Nat)) (fun q => chX (c ++ [(z, q)])) trivial (rowO a b j z) (fun y hy K1 K2 h1 => ?_) ?_ (newTr ?_)
        · have t1 := tv_addX (fz := true) (xs := c.map pvX) (ys := [pvX (z, y)]) (by simp; omega) (tv_slot (i := 4) (ρ := ((dwipe [some (R a), some (R b), some (.ref p), some (.ref r), some (chX c), some (.tupx [.int ((i : Int) - 1), .int ((j : Int) - 1)]), some (.int (z : Nat)), some (.lst ((rowO a b j z).map fun q => .int (q : Nat))), x8] [8]).set 8 (some (.int (y : Nat))))) (M := M2) rfl) (tv_tupx1 (tv_tupx2 (tv_slot (i := 6) rfl) (tv_slot (i := 8) rfl)))
          refine t1 _ ?_
          unfold chX at h1
          rw [List.map_append] at h1
          exact h1
        · refine small ?_
          unfold rowO
          exact Nat.le_trans (List.length_filter_le _ _) (by simp; omega)
        · refine ⟨r, _, _, _, rfl, rfl, er2, rfl, lnew, ?_⟩
          refine next2 _ _ ⟨_, _, _, rfl, sub2.mu hr0 _, by rw [mu_ne nrp.symm]; exact ep2, ?_⟩
          rw [mu_same, opts_snoc, List.map_append (l₁ := opts a b i j pre2), ← List.append_assoc, List.map_append (l₂ := List.map _ (List.map _ _)), List.map_map, List.map_map]
          rfl
    · rintro ρ M2 ⟨x6, x7, x8, rfl, sub2, ep2, er2⟩
      refine next _ _ ⟨_, _, _, _, _, rfl, sub2, ep2, ?_⟩
      rw [er2, ← eext, List.flatMap_append]
      simp
  · rintro ρ M1 ⟨x4, x5, x6, x7, x8, rfl, sub1, ep1, er1⟩
    have e1 : (lev a b k).flatMap (ext a b) = lev a b (k + 1) := rfl
    rw [e1] at er1
    dsimp only
    refine seq_ (if_s (A := (lev a b (k + 1)).isEmpty) (tb_b fun Q q => ?_) (fun hc => ?_) fun hc => ?_)
    · refine ⟨_, rfl, Nat.zero_le _, newTr ?_⟩
      refine ⟨.list ((lev a b (k + 1)).map tD), .list [], ?_, rfl, ?_, by decide, ?_⟩
      · show (match mol (M1 r) with | some xs => _ | none => none) = _
        rw [er1]
        show (match pyAll ((lev a b (k + 1)).map chX) with | some ps => some (PyData.list ps) | none => none) = _
        rw [chsX_py]
      · unfold SeqAt.shaped
        have h1 : (PyData.list ((lev a b (k + 1)).map tD)).canLay0 = true := by rw [PyData.canLay0]; exact tDs_lay _
        have h2 : (PyData.list ((lev a b (k + 1)).map tD)).depth ≤ 4 := by rw [PyData.depth]; have := tDs_dep (lev a b (k + 1)); omega
        rw [h1, Bool.true_and, decide_eq_true_eq]
        omega
      · rw [if_neg (by simp), eqv_nil_lst]
        have : ((lev a b (k + 1)).map tD).isEmpty = (lev a b (k + 1)).isEmpty := by cases lev a b (k + 1) <;> rfl
        rw [this]
        exact q
    · have hn : lev a b (k + 1) = [] := by simpa using hc
      have hk := lev_last ne hn
      cases hL : lev a b k with
      | nil => exact absurd hL ne
      | cons c L =>
        have hm := lev_min hL hk
        rw [hL] at ep1
        refine ⟨_, rfl, .ref p, (c :: L).map chX, tD c, L.map tD, rfl, (show mol (M1 p) = _ by rw [ep1]; rfl), by rw [chsX_py]; rfl, ?_, ?_, fun i y hy ey => ?_⟩
        · have := PySem.W.alikeAll_datum (α := TT) ((c :: L).map toT)
          rw [List.map_map] at this
          exact this
        · exact Nat.le_trans (tDs_dep (c :: L)) (by omega)
        · rw [List.getElem?_map] at hy
          cases hd : (c :: L)[i]? with
          | none => rw [hd] at hy; cases hy
          | some d =>
            rw [hd] at hy
            cases hy
            have h1 := PySem.W.minD_map (toT c) (L.map toT)
            rw [hm, List.map_map] at h1
            have h2 : some (tD d) = some (tD (grA a b)) := by
              rw [← chX_py d, ey]
              exact congrArg some h1
            injection h2 with h2
            rw [tD_inj h2]
            exact q M1 sub1
    · have hn : lev a b (k + 1) ≠ [] := by simpa using hc
      have hk2 := lev_some hn
      refine next_ ?_
      refine ⟨_, rfl, ?_⟩
      exact ⟨lc a b 0 0 + 1 - (k + 1), by omega, k + 1, r, _, _, _, _, _, _, rfl, sub1, hr0, er1, hn, rfl⟩
end K90

set_option maxHeartbeats 4000000
/-! K90m: _law_blocks. -/
namespace K90
open PySem PySem.Spec DL KB
open L2 (atI ixN)
open PyProof.Rows hiding St signs
variable {a b : Row}
def blkX : Blk → DL.D
  | .keep n => .tupx [.str "keep", .int (n : Nat)]
  | .turn x y => .tupx [.str "turn", R x, R y]
theorem tv_neRX {t : DTE} {ρ : Rho} {M : Mp} {x : Row} (hx : smRow x) (h : TV t ρ M (R x)) : TV (dOp (rEqD2 true) t (dTupX dNil)) ρ M (.bl (!x.isEmpty)) := fun Q q => h _ ⟨small (by simp), by
  obtain ⟨e1, s1, _, _⟩ := row_py hx
  refine ⟨_, .tuple [], e1, rfl, s1, by decide, ?_⟩
  rw [if_pos rfl, eqv_nil_tup]
  have : (x.map PyData.str).isEmpty = x.isEmpty := by cases x <;> rfl
  rw [this]
  exact q⟩
theorem cutN_empty {x : Row} {i p : Nat} (hp : p ≤ x.length) : (!(cutN x i p).isEmpty) = decide (i < p) := by
  have l : (cutN x i p).length = min (p - i) (x.length - i) := by unfold cutN; rw [List.length_take, List.length_drop]
  by_cases h : i < p
  · rw [decide_eq_true h]
    cases e : cutN x i p with
    | nil => rw [e] at l; simp at l; omega
    | cons y r => rfl
  · rw [decide_eq_false h]
    have : cutN x i p = [] := List.length_eq_zero_iff.mp (by omega)
    rw [this]; rfl
theorem tv_tupx3 {t u v : DTE} {ρ : Rho} {M : Mp} {x y z : DL.D} (h : TV t ρ M x) (k : TV u ρ M y) (l : TV v ρ M z) : TV (dTupX (dCons t (dCons u (dCons v dNil)))) ρ M (.tupx [x, y, z]) := fun Q q => h _ (k _ (l _ ⟨small (by simp), q⟩))
theorem tv_lst1 {t : DTE} {ρ : Rho} {M : Mp} {x : DL.D} (h : TV t ρ M x) : TV (dLst true (dCons t dNil)) ρ M (.lst [x]) := fun Q q => h _ ⟨small (by simp), newTr q⟩
theorem tv_lst0 {ρ : Rho} {M : Mp} : TV (dLst true dNil) ρ M (.lst []) := fun Q q => ⟨small (by simp), newTr q⟩
def sp_lblocks0 : DS1 := fun ds M Q => ∃ a b : Row, ds = [R a, R b] ∧ okRow a ∧ okRow b ∧ a.length ≤ 6 ∧ b.length ≤ 6 ∧ ∀ M', SubM M M' → Q (.tup ((blocks a b).map blkX)) M'
def sp_lblocks : DS1 := fun ds M Q => ∃ a b : Row, ds = [R a, R b] ∧ okRow a ∧ okRow b ∧ a.length ≤ 6 ∧ b.length ≤ 6 ∧ Q (.tup ((blocks a b).map blkX)) M
theorem wk_lblocks : ∀ ds M Q, sp_lblocks ds M Q → sp_lblocks0 ds M fun d M1 => ∃ M2, SubM M2 M1 ∧ Q d M2 :=
  fun _ M _ ⟨a, b, e, ha, hb, la, lb, q⟩ => ⟨a, b, e, ha, hb, la, lb, fun _ s => ⟨M, s, q⟩⟩
theorem rd_lblocks : ∀ ds M Q, sp_lblocks0 ds M Q → ds.length = 2 ∧ r__law_blocks sp_lcommon { nx := fun _ M' => Q .non M', rt := Q } (dstart N__law_blocks ds) M := by
  rintro _ M Q ⟨a, b, rfl, ha, hb, la, lb, q⟩
  refine ⟨rfl, ?_⟩
  refine ⟨_, rfl, _, rfl, a, b, rfl, la, lb, ?_⟩
  refine ⟨Nat.zero_le _, fun p hp => ?_⟩
  refine tv_tupx2 (tv_neg tv_c) (tv_neg tv_c) _ ?_
  refine ⟨small (by simp), _, rfl, rfl, _, _, rfl, _, _, rfl, _, _, rfl, _, _, rfl, rfl, ?_⟩
  obtain ⟨_, gf⟩ := gr_fact a b
  have gl := gr_len a b
  refine tv_addX (xs := (grA a b).map pvX) (by simp; omega) (tv_slot rfl) (tv_tupx1 (tv_tupx2 (tv_lenR (x := a) (tv_slot rfl)) (tv_lenR (x := b) (tv_slot rfl)))) _ ?_
  have el : (grA a b).map pvX ++ [DL.D.tupx [.int (a.length : Nat), .int (b.length : Nat)]] = (grA a b ++ [(a.length, b.length)]).map pvX := by
    rw [List.map_append]; rfl
  rw [el]
  have mem : ∀ x ∈ grA a b ++ [(a.length, b.length)], x.1 ≤ a.length ∧ x.2 ≤ b.length := fun x hx => by
    rcases List.mem_append.mp hx with h | h
    · have := gf x h; omega
    · rw [List.mem_singleton.mp h]; exact ⟨Nat.le_refl _, Nat.le_refl _⟩
  refine for_pre pvX _ (fun pre ρ M' => ∃ f i j k x2 x7 x8, ρ = [some (R a), some (R b), x2, some (chX (grA a b)), some (.ref p), some (.tupx [.int ((i : Nat) - 1 : Int), .int ((j : Nat) - 1 : Int)]), some (.int (k : Nat)), x7, x8] ∧ M' = mu M p (.lst (f.map blkX)) ∧ pre.foldl (bstep a b) ([], 0, 0, 0) = (f, i, j, k)) (fun _ _ _ _ => trivial) ?_ ?_ _ [] _ _ rfl ⟨[], 0, 0, 0, _, _, _, rfl, rfl, rfl⟩
  · rintro pre ⟨u, v⟩ suf e ρ M' ⟨f, i, j, k, x2, x7, x8, rfl, rfl, ef⟩ N next
    rw [List.nil_append] at e
    obtain ⟨hu, hv⟩ := mem (u, v) (by rw [← e]; simp)
    dsimp only at hu hv
    have fl : f.length ≤ 500 := by
      have := bst_len a b pre ([], 0, 0, 0)
      rw [ef] at this
      have e2 := congrArg List.length e
      simp at e2 this
      omega
    have nx2 : ∀ (s : BSt), bstep a b (f, i, j, k) (u, v) = s → ∀ x2 x7 x8, N [some (R a), some (R b), x2, some (chX (grA a b)), some (.ref p), some (.tupx [.int ((s.2.1 : Nat) - 1 : Int), .int ((s.2.2.1 : Nat) - 1 : Int)]), some (.int (s.2.2.2 : Nat)), x7, x8] (mu M p (.lst (s.1.map blkX))) := by
      rintro ⟨f', i', j', k'⟩ es x2 x7 x8
      refine next _ _ ⟨f', i', j', k', _, _, _, rfl, rfl, ?_⟩
      rw [List.foldl_append, ef]
      exact es
    have s5 : ∀ {x6 x7 x8 : Option DL.D} {M : Mp}, TV (dSlot 5) [some (R a), some (R b), some (pvX (u, v)), some (chX (grA a b)), some (.ref p), some (.tupx [.int ((i : Nat) - 1 : Int), .int ((j : Nat) - 1 : Int)]), x6, x7, x8] M (.tupx [.int ((i : Nat) - 1 : Int), .int ((j : Nat) - 1 : Int)]) := fun {x6 x7 x8 M} => tv_slot rfl
    have s2 : ∀ {x6 x7 x8 : Option DL.D} {M : Mp}, TV (dSlot 2) [some (R a), some (R b), some (pvX (u, v)), some (chX (grA a b)), some (.ref p), some (.tupx [.int ((i : Nat) - 1 : Int), .int ((j : Nat) - 1 : Int)]), x6, x7, x8] M (.tupx [.int (u : Nat), .int (v : Nat)]) := fun {x6 x7 x8 M} => tv_slot rfl
    have s0 : ∀ {x6 x7 x8 : Option DL.D} {M : Mp}, TV (dSlot 0) [some (R a), some (R b), some (pvX (u, v)), some (chX (grA a b)), some (.ref p), some (.tupx [.int ((i : Nat) - 1 : Int), .int ((j : Nat) - 1 : Int)]), x6, x7, x8] M (R a) := fun {x6 x7 x8 M} => tv_slot rfl
    have s1 : ∀ {x6 x7 x8 : Option DL.D} {M : Mp}, TV (dSlot 1) [some (R a), some (R b), some (pvX (u, v)), some (chX (grA a b)), some (.ref p), some (.tupx [.int ((i : Nat) - 1 : Int), .int ((j : Nat) - 1 : Int)]), x6, x7, x8] M (R b) := fun {x6 x7 x8 M} => tv_slot rfl
    refine tv_slR (i := i) (j := u) (by omega) rfl s0 (tv_addI (tv_ixX ix0 s5 tv_c) tv_c) (tv_ixX ix0 s2 tv_c) _ ?_
    refine tv_slR (i := j) (j := v) (by omega) rfl s1 (tv_addI (tv_ixX ix1 s5 tv_c) tv_c) (tv_ixX ix1 s2 tv_c) _ ?_
    refine ⟨_, _, rfl, ?_⟩
    have fin : ∀ (f' : List Blk) (k' : Nat), bstep a b (f, i, j, k) (u, v) = (f', u + 1, v + 1, k' + 1) →
        dPar 5 6 (dCons (dSlot 2) (dCons (dOp (rAddX true) (dSlot 6) (dC (.int 1))) dNil)) { nx := N, ct := N, bk := fun _ _ => True, rt := Q } [some (R a), some (R b), some (pvX (u, v)), some (chX (grA a b)), some (.ref p), some (.tupx [.int ((i : Nat) - 1 : Int), .int ((j : Nat) - 1 : Int)]), some (.int (k' : Nat)), some (R (cutN a i u)), some (R (cutN b j v))] (mu M p (.lst (f'.map blkX))) := by
      intro f' k' es
      refine ⟨_, rfl, ?_⟩
      refine tv_addI (tv_slot rfl) tv_c _ ⟨_, _, rfl, ?_⟩
      have := nx2 _ es (some (pvX (u, v))) (some (R (cutN a i u))) (some (R (cutN b j v)))
      dsimp only at this
      rw [show (((u + 1 : Nat) : Int) - 1) = (u : Nat) by omega, show (((v + 1 : Nat) : Int) - 1) = (v : Nat) by omega] at this
      exact this
    dsimp only
    refine seq_ (if_s (A := decide (i < u) || decide (j < v)) (tb_or (tb_b ?_) fun _ => tb_b ?_) (fun c => ?_) fun c => ?_)
    · rw [← cutN_empty (x := a) hu]
      exact tv_neRX (ha.sm.cut _ _) (tv_slot rfl)
    · rw [← cutN_empty (x := b) hv]
      exact tv_neRX (hb.sm.cut _ _) (tv_slot rfl)
    · have c' : i < u ∨ j < v := by simpa using c
      have es : bstep a b (f, i, j, k) (u, v) = ((if 0 < k then f ++ [.keep k] else f) ++ [.turn (cutN a i u) (cutN b j v)], u + 1, v + 1, 0 + 1) := by
        unfold bstep; rw [if_pos c']
      refine seq_ (drop_ ?_)
      have e1 : (if 0 < k then f ++ [Blk.keep k] else f) = f ++ (if 0 < k then [Blk.keep k] else []) := by split <;> simp
      refine ext_ref (ys := (if 0 < k then [Blk.keep k] else []).map blkX) (d := .lst ((if 0 < k then [Blk.keep k] else []).map blkX)) mu_same (tv_slot rfl) (tv_if (tb_b (tv_gt (tv_slot (d := .int (k : Nat)) rfl) (tv_c (d := .int 0)))) (fun h => ?_) fun h => ?_) rfl (by split <;> simp <;> omega) ?_
      · rw [if_pos (by simpa using h)]
        exact tv_lst1 (tv_tupx2 tv_c (tv_slot rfl))
      · rw [if_neg (by simpa using h)]
        exact tv_lst0
      · rw [mu_mu]
        dsimp only
        refine seq_ (drop_ ?_)
        refine app_ref mu_same (tv_slot rfl) (tv_tupx3 tv_c (tv_slot rfl) (tv_slot rfl)) (by split <;> simp <;> omega) ?_
        rw [mu_mu]
        refine asgn_ tv_c ?_
        have := fin _ 0 es
        rw [e1, List.map_append, List.map_append] at this
        exact this
    · have c' : ¬ (i < u ∨ j < v) := by simpa using c
      have es : bstep a b (f, i, j, k) (u, v) = (f, u + 1, v + 1, k + 1) := by
        unfold bstep; rw [if_neg c']
      refine next_ ?_
      exact fin f k es
  · rintro ρ M' ⟨f, i, j, k, x2, x7, x8, rfl, rfl, ef⟩
    rw [List.nil_append] at ef
    have eb : brun a b (grA a b) = (f, i, j, k) := ef
    have fl : f.length ≤ 500 := by
      have := bst_len a b (grA a b ++ [(a.length, b.length)]) ([], 0, 0, 0)
      rw [ef] at this
      simp at this
      omega
    have e1 : blocks a b = f ++ (if 1 < k then [Blk.keep (k - 1)] else []) := by
      unfold blocks
      rw [eb]
      dsimp only
      split <;> simp
    have sub : SubM M (mu M p (.lst (f.map blkX))) := (SubM.refl M).mu hp _
    refine ⟨_, rfl, ?_⟩
    refine tv_if (d := .lst ((if 1 < k then [Blk.keep (k - 1)] else []).map blkX)) (tb_b (tv_gt (tv_slot (d := .int (k : Nat)) rfl) (tv_c (d := .int 1)))) (fun h => ?_) (fun h => ?_) _ ?_
    · have h' : 1 < k := by have := of_decide_eq_true h; omega
      rw [if_pos h']
      have := tv_lst1 (tv_tupx2 (tv_c (d := .str "keep") (ρ := [some (R a), some (R b), x2, some (chX (grA a b)), some (.ref p), some (.tupx [.int ((i : Nat) - 1 : Int), .int ((j : Nat) - 1 : Int)]), some (.int (k : Nat)), x7, x8]) (M := mu M p (.lst (f.map blkX)))) (tv_sub (tv_slot (i := 6) (d := .int (k : Nat)) rfl) (tv_c (d := .int 1))))
      rw [show (k : Int) - 1 = ((k - 1 : Nat) : Int) by omega] at this
      exact this
    · have h' : ¬ 1 < k := by have := of_decide_eq_false h; omega
      rw [if_neg h']
      exact tv_lst0
    · refine .inr ⟨f.map blkX, (if 1 < k then [Blk.keep (k - 1)] else []).map blkX, (show mol (mu M p _ p) = _ by rw [mu_same]; rfl), rfl, small (by split <;> simp <;> omega), newTr ?_⟩
      refine tupd_of (d := .lst _) rfl ?_
      rw [← List.map_append, ← e1]
      exact q _ sub
end K90

set_option maxHeartbeats 4000000
/-! K90o: _law_merged. -/
namespace K90
open PySem PySem.Spec DL KB
open L2 (atI ixN)
open PyProof.Rows hiding St signs
variable {a b : Row}
theorem pairs_kc : ∀ c : Ch, pairsD (c.map pvX) = some (c.map fun x => (Sum.inl ((x.1 : Nat) : Int), DL.D.int (x.2 : Nat)))
  | [] => rfl
  | x :: c => by
    rw [List.map_cons, pairsD, pairs_kc c]
    rfl
theorem tv_dictT {t : DTE} {ρ : Rho} {M : Mp} {c : Ch} (nd : (c.map (·.1)).Pairwise (· < ·)) (h : TV t ρ M (chX c)) : TV (dCB rDictT (dCons t dNil)) ρ M (.dct (kc c) (vc c)) := fun Q q => h _ ⟨_, _, rfl, pairs_kc c, by
  rw [List.map_map]
  show List.Pairwise _ _
  rw [List.pairwise_map]
  rw [List.pairwise_map] at nd
  exact nd.imp fun h z => by
    injection z with z
    omega, by
  rw [List.map_map, List.map_map]
  exact q⟩
theorem int_sorted : ∀ {l m : List Int}, l.Perm m → l.Pairwise (· ≤ ·) → m.Pairwise (· ≤ ·) → l = m
  | [], m, p, _, _ => (List.nil_perm.mp p).symm
  | x :: l, [], p, _, _ => by have := p.length_eq; simp at this
  | x :: l, y :: m, p, h1, h2 => by
    obtain ⟨a1, a2⟩ := List.pairwise_cons.mp h1
    obtain ⟨b1, b2⟩ := List.pairwise_cons.mp h2
    have e : x = y := by
      have hx : x ∈ y :: m := p.mem_iff.mp List.mem_cons_self
      have hy : y ∈ x :: l := p.mem_iff.mpr List.mem_cons_self
      have c1 : y ≤ x := by
        rcases List.mem_cons.mp hx with rfl | h
        · omega
        · exact b1 x h
      have c2 : x ≤ y := by
        rcases List.mem_cons.mp hy with rfl | h
        · omega
        · exact a1 y h
      omega
    subst e
    rw [int_sorted ((List.perm_cons x).mp p) a2 b2]
theorem nat_sorted : ∀ {l m : List Nat}, l.Pairwise (· < ·) → m.Pairwise (· < ·) → (∀ x, x ∈ l ↔ x ∈ m) → l = m
  | [], [], _, _, _ => rfl
  | [], y :: m, _, _, h => by have := (h y).mpr List.mem_cons_self; cases this
  | x :: l, [], _, _, h => by have := (h x).mp List.mem_cons_self; cases this
  | x :: l, y :: m, h1, h2, h => by
    obtain ⟨a1, a2⟩ := List.pairwise_cons.mp h1
    obtain ⟨b1, b2⟩ := List.pairwise_cons.mp h2
    have e : x = y := by
      have hx : x ∈ y :: m := (h x).mp List.mem_cons_self
      have hy : y ∈ x :: l := (h y).mpr List.mem_cons_self
      rcases List.mem_cons.mp hx with r | r
      · exact r
      · rcases List.mem_cons.mp hy with s | s
        · exact s.symm
        · have := b1 x r
          have := a1 y s
          omega
    subst e
    rw [nat_sorted a2 b2 fun z => ?_]
    constructor
    · intro hz
      rcases List.mem_cons.mp ((h z).mp (List.mem_cons_of_mem _ hz)) with rfl | r
      · have := a1 z hz; omega
      · exact r
    · intro hz
      rcases List.mem_cons.mp ((h z).mpr (List.mem_cons_of_mem _ hz)) with rfl | r
      · have := b1 z hz; omega
      · exact r
/-- the places, by the keys of the first -/
theorem stab_keys (x y z : Row) : (List.range x.length).filter (both (grA x y) (grA x z)) = ((grA x y).map (·.1)).filter fun p => (look (grA x z) p).isSome := by
  obtain ⟨c1, c2⟩ := gr_fact x y
  refine nat_sorted (List.Pairwise.filter _ List.pairwise_lt_range) (List.Pairwise.filter _ c1) fun p => ?_
  rw [List.mem_filter, List.mem_filter, List.mem_range]
  unfold both
  rw [Bool.and_eq_true, look_iff]
  constructor
  · rintro ⟨_, h1, h2⟩; exact ⟨h1, h2⟩
  · rintro ⟨h1, h2⟩
    refine ⟨?_, h1, h2⟩
    obtain ⟨w, hw, rfl⟩ := List.mem_map.mp h1
    exact (c2 w hw).1
/-- a place before, as the law keeps it -/
def bD (h : Pl) : DL.D := .tup [.int ((h.1 : Int) - 1), .int ((h.2.1 : Int) - 1), .int ((h.2.2 : Int) - 1)]
def suc (p : Pl) : Pl := (p.1 + 1, p.2.1 + 1, p.2.2 + 1)
theorem bD_suc (p : Pl) : bD (suc p) = plD p := by
  unfold bD plD suc
  dsimp only
  rw [show (((p.1 + 1 : Nat) : Int) - 1) = (p.1 : Nat) by omega, show (((p.2.1 + 1 : Nat) : Int) - 1) = (p.2.1 : Nat) by omega, show (((p.2.2 + 1 : Nat) : Int) - 1) = (p.2.2 : Nat) by omega]
theorem mstep_next (x y z : Row) (s : MSt) (p : Pl) : (mstep x y z s p).2.2 = suc p := by
  unfold mstep
  split <;> rfl
/-- the walk along neighbours -/
theorem for_near {g : DTG} {tb : DTS} {D : DEnds} {G : Mp → Prop} (x y z : Row) (all : List Pl) (I : Nat → MSt → Rho → Mp → Prop) (hG : ∀ n s ρ M, I n s ρ M → G M)
    (step : ∀ (n : Nat) (s : MSt) (p : Pl), p ∈ all → n < all.length → ∀ ρ M, I n s ρ M → ∀ N : Rho → Mp → Prop, (∀ ρ' M', I (n + 1) (mstep x y z s p) ρ' M' → N ρ' M') → g (.tup [bD s.2.2, plD p]) ρ M fun ρ2 M2 => tb { D with nx := N, ct := N, bk := D.nx } ρ2 M2) :
    ∀ (ps : List Pl) (n : Nat) (s : MSt) (ρ : Rho) (M : Mp), (∀ p ∈ ps, p ∈ all) → n + ps.length = all.length → I n s ρ M → (∀ ρ' M', I all.length (ps.foldl (mstep x y z) s) ρ' M' → D.nx ρ' M') → forW g tb D G (pairs (bD s.2.2 :: ps.map plD) (ps.map plD)) ρ M
  | [], n, s, ρ, M, _, e, i, fin => by
    refine ⟨hG _ _ _ _ i, fin ρ M ?_⟩
    have : n = all.length := by simpa using e
    rw [← this]
    exact i
  | p :: ps, n, s, ρ, M, hm, e, i, fin => by
    refine ⟨hG _ _ _ _ i, step n s p (hm p List.mem_cons_self) (by rw [← e]; simp) ρ M i _ fun ρ' M' i' => ?_⟩
    have := for_near x y z all I hG step ps (n + 1) (mstep x y z s p) ρ' M' (fun q hq => hm q (List.mem_cons_of_mem _ hq)) (by rw [← e, List.length_cons]; omega) i' fin
    rw [mstep_next, bD_suc] at this
    exact this
theorem tv_ixL {t u : DTE} {ρ : Rho} {M : Mp} {xs : List DL.D} {i : Int} {d : DL.D} (e : atI xs i = some d) (h : TV t ρ M (.lst xs)) (k : TV u ρ M (.int i)) : TV (dOp rIxD t u) ρ M d := fun Q q => h _ (k _ ⟨_, _, rfl, e, q⟩)
theorem asg_op {r : RD2} {t u : DTE} {g : DTG} {D : DEnds} {ρ : Rho} {M : Mp} (h : t ρ M fun d M1 => u ρ M1 fun e M2 => r d e M2 fun v M3 => g v ρ M3 D.nx) : dAsg (dOp r t u) g D ρ M := h
def sp_lmerged0 : DS1 := fun ds M Q => ∃ x y z : Row, ds = [R x, R y, R z] ∧ okRow x ∧ okRow y ∧ okRow z ∧ x.length ≤ 6 ∧ y.length ≤ 6 ∧ z.length ≤ 6 ∧ ∀ M', SubM M M' → Q (mres x y z) M'
def sp_lmerged : DS1 := fun ds M Q => ∃ x y z : Row, ds = [R x, R y, R z] ∧ okRow x ∧ okRow y ∧ okRow z ∧ x.length ≤ 6 ∧ y.length ≤ 6 ∧ z.length ≤ 6 ∧ Q (mres x y z) M
theorem wk_lmerged : ∀ ds M Q, sp_lmerged ds M Q → sp_lmerged0 ds M fun d M1 => ∃ M2, SubM M2 M1 ∧ Q d M2 :=
  fun _ M _ ⟨x, y, z, e, hx, hy, hz, lx, ly, lz, q⟩ => ⟨x, y, z, e, hx, hy, hz, lx, ly, lz, fun _ s => ⟨M, s, q⟩⟩
theorem rd_lmerged : ∀ ds M Q, sp_lmerged0 ds M Q → ds.length = 3 ∧ r__law_merged sp_lcommon { nx := fun _ M' => Q .non M', rt := Q } (dstart N__law_merged ds) M := by
  rintro _ M Q ⟨x, y, z, rfl, hx, hy, hz, lx, ly, lz, q⟩
  refine ⟨rfl, ?_⟩
  obtain ⟨c1, f1⟩ := gr_fact x y
  obtain ⟨c2, f2⟩ := gr_fact x z
  have n1 := gr_len x y
  unfold r__law_merged
  refine seq_ (asg_tup2 ?_)
  have t1 : TV (dCall1 sp_lcommon (dCons (dSlot 0) (dCons (dSlot 1) dNil))) (dstart N__law_merged [R x, R y, R z]) M (chX (grA x y)) := fun Q q => ⟨_, rfl, _, rfl, x, y, rfl, lx, ly, q⟩
  have t2 : TV (dCall1 sp_lcommon (dCons (dSlot 0) (dCons (dSlot 2) dNil))) (dstart N__law_merged [R x, R y, R z]) M (chX (grA x z)) := fun Q q => ⟨_, rfl, _, rfl, x, z, rfl, lx, lz, q⟩
  refine tv_dictT (c := grA x y) c1 t1 _ ?_
  refine tv_dictT (c := grA x z) c2 t2 _ ?_
  refine ⟨small (by simp), _, rfl, rfl, _, _, rfl, _, _, rfl, rfl, ?_⟩
  dsimp only
  refine seq_ (asg_op (tv_lst1 (tv_tup3 (tv_neg tv_c) (tv_neg tv_c) (tv_neg tv_c)) _ ?_))
  refine ⟨_, rfl, (grA x y).map (fun w => ((w.1 : Nat) : Int)), vc (grA x y), by unfold kc; rw [List.map_map]; rfl, fun ms mp so => ?_⟩
  have ems : ms = (grA x y).map (fun w => ((w.1 : Nat) : Int)) := by
    refine int_sorted mp so ?_
    rw [List.pairwise_map] at c1 ⊢
    exact c1.imp fun h => by omega
  subst ems
  refine newTr ?_
  have eit : ((grA x y).map (fun w => ((w.1 : Nat) : Int))).map DL.D.int = ((grA x y).map (·.1)).map fun p : Nat => DL.D.int (p : Nat) := by
    rw [List.map_map, List.map_map]; rfl
  show lcW _ _ _ _ _ _ (((grA x y).map (fun w => ((w.1 : Nat) : Int))).map DL.D.int) [] M
  rw [eit]
  refine lc_flt (G := fun _ => True) (fun p : Nat => DL.D.int (p : Nat)) (fun p => (look (grA x z) p).isSome) (fun p => plD (plAt (grA x y) (grA x z) p)) (by exact trivial) ((grA x y).map (·.1)) [] (fun p hp K1 K2 h1 h2 => ?_) (small (by simp; omega)) ?_
  · refine tb_b (tv_inDc (c := grA x z) (p := p) (tv_slot rfl) (tv_slot rfl)) _ ?_
    cases hb : (look (grA x z) p).isSome with
    | false => exact iteF (h2 hb)
    | true =>
      refine iteT ?_
      obtain ⟨m, hm⟩ := Option.isSome_iff_exists.mp ((look_iff (grA x y) p).mpr hp)
      obtain ⟨n, hn⟩ := Option.isSome_iff_exists.mp hb
      refine tv_tup3 (tv_slot rfl) (tv_getDc hm (tv_slot rfl) (tv_slot rfl)) (tv_getDc hn (tv_slot rfl) (tv_slot rfl)) _ ?_
      have := h1 hb
      unfold plAt at this
      rw [hm, hn] at this
      exact this
  refine newTr ?_
  have hl : (((grA x y).map (·.1)).filter fun p => (look (grA x z) p).isSome).length ≤ 6 := by
    have := List.length_filter_le (fun p => (look (grA x z) p).isSome) ((grA x y).map (·.1))
    simp at this
    omega
  refine ⟨_, _, rfl, rfl, small (by simp at hl ⊢; omega), fun r hr => ?_⟩
  dsimp only
  refine seq_ (drop_ ?_)
  refine app_ref mu_same (tv_slot rfl) (tv_tup3 (tv_lenR (x := x) (tv_slot rfl)) (tv_lenR (x := y) (tv_slot rfl)) (tv_lenR (x := z) (tv_slot rfl))) (by simp at hl ⊢; omega) ?_
  rw [mu_mu]
  have eh : [DL.D.tup [.int (-1), .int (-1), .int (-1)]] ++ ([] ++ (((grA x y).map (·.1)).filter fun p => (look (grA x z) p).isSome).map fun p => plD (plAt (grA x y) (grA x z) p)) ++ [DL.D.tup [.int x.length, .int y.length, .int z.length]] = bD (0, 0, 0) :: (stab x y z).map plD := by
    rw [← stab_keys]
    unfold stab
    rw [List.map_append, List.map_map, List.nil_append]
    rfl
  rw [eh]
  refine ⟨Nat.zero_le _, fun p hp => ?_⟩
  refine ⟨Nat.zero_le _, fun w hw => ?_⟩
  refine ⟨_, _, rfl, ?_⟩
  have npr : p ≠ r := by rintro rfl; rw [mu_same] at hp; cases hp
  have hp0 : M p = none := by rw [mu_ne npr] at hp; exact hp
  have nwp : w ≠ p := by rintro rfl; rw [mu_same] at hw; cases hw
  rw [mu_ne nwp] at hw
  have nwr : w ≠ r := by rintro rfl; rw [mu_same] at hw; cases hw
  have hw0 : M w = none := by rw [mu_ne nwr] at hw; exact hw
  have hr0 : M r = none := hr
  obtain ⟨sl, sp⟩ := stab_sm x y z
  have er : mu (mu (mu M r (.lst (bD (0, 0, 0) :: (stab x y z).map plD))) p (.lst [])) w (.lst []) r = some (.lst (bD (0, 0, 0) :: (stab x y z).map plD)) := by
    rw [mu_ne nwr.symm, mu_ne npr.symm, mu_same]
  refine ⟨_, rfl, _, rfl, 1, rfl, _, (show mol (mu (mu (mu M r _) p _) w _ r) = _ by rw [er]; rfl), newTr ?_⟩
  refine ⟨_, _, (show mol (mu (mu (mu M r _) p _) w _ r) = _ by rw [er]; rfl), rfl, ?_⟩
  rw [cut1, List.tail_cons]
  refine for_near x y z (stab x y z) (fun n s ρ M' => ∃ x8 x9 x10, ρ = [some (R x), some (R y), some (R z), some (.ref r), some (.dct (kc (grA x y)) (vc (grA x y))), some (.dct (kc (grA x z)) (vc (grA x z))), some (.ref p), some (.ref w), x8, x9, x10, none, none, none, none] ∧ SubM M M' ∧ M' p = some (.lst (s.1.map .str)) ∧ M' w = some (.lst (s.2.1.map clD)) ∧ M' r = some (.lst (bD (0, 0, 0) :: (stab x y z).map plD)) ∧ MSm n s)
    (fun n s ρ M' ⟨_, _, _, _, _, _, _, h, _⟩ => ⟨by show mol (M' r) = _; rw [h]; rfl, rfl⟩) ?_ (stab x y z) 0 ([], [], 0, 0, 0) _ _ (fun _ h => h) (by simp)
    ⟨none, none, none, rfl, (((SubM.refl M).mu hr0 _).mu hp0 _).mu hw0 _, by rw [mu_ne nwp.symm, mu_same]; rfl, by rw [mu_same]; rfl, er, ⟨by simp, (fun _ h => nomatch h), by simp, (fun _ h => nomatch h), by simp⟩⟩ ?_
  · rintro n ⟨f, cl, h1, h2, h3⟩ v hv hn ρ M' ⟨x8, x9, x10, rfl, sub, ep, ew, er', sm⟩ N next
    have hw' := sp v hv
    have pl : n ≤ 7 := by omega
    have fl : f.length ≤ 80 * n := sm.f
    have cll : cl.length ≤ n := sm.c
    have s0 : ∀ {x10 x11 x12 x13 x14 : Option DL.D} {M : Mp}, TV (dSlot 0) [some (R x), some (R y), some (R z), some (.ref r), some (.dct (kc (grA x y)) (vc (grA x y))), some (.dct (kc (grA x z)) (vc (grA x z))), some (.ref p), some (.ref w), some (bD (h1, h2, h3)), some (plD v), x10, x11, x12, x13, x14] M (R x) := fun {x10 x11 x12 x13 x14 M} => tv_slot rfl
    have s8 : ∀ {x10 x11 x12 x13 x14 : Option DL.D} {M : Mp}, TV (dSlot 8) [some (R x), some (R y), some (R z), some (.ref r), some (.dct (kc (grA x y)) (vc (grA x y))), some (.dct (kc (grA x z)) (vc (grA x z))), some (.ref p), some (.ref w), some (bD (h1, h2, h3)), some (plD v), x10, x11, x12, x13, x14] M (.tup [.int ((h1 : Int) - 1), .int ((h2 : Int) - 1), .int ((h3 : Int) - 1)]) := fun {x10 x11 x12 x13 x14 M} => tv_slot rfl
    have s9 : ∀ {x10 x11 x12 x13 x14 : Option DL.D} {M : Mp}, TV (dSlot 9) [some (R x), some (R y), some (R z), some (.ref r), some (.dct (kc (grA x y)) (vc (grA x y))), some (.dct (kc (grA x z)) (vc (grA x z))), some (.ref p), some (.ref w), some (bD (h1, h2, h3)), some (plD v), x10, x11, x12, x13, x14] M (.tup [.int (v.1 : Nat), .int (v.2.1 : Nat), .int (v.2.2 : Nat)]) := fun {x10 x11 x12 x13 x14 M} => tv_slot rfl
    refine ⟨_, rfl, rfl, _, _, rfl, _, _, rfl, rfl, ?_⟩
    refine seq_ (asgn_ (d := .lst [R (cutN x h1 v.1), R (cutN y h2 v.2.1), R (cutN z h3 v.2.2)]) (fun Q q => ?_) ?_)
    · refine ⟨_, rfl, _, rfl, _, rfl, small (by simp), ?_⟩
      refine s8 _ (s9 _ ⟨_, _, _, rfl, rfl, rfl, rfl, rfl, ?_⟩)
      refine ⟨trivial, _, rfl, rfl, _, _, rfl, _, _, rfl, _, _, rfl, rfl, ?_⟩
      refine tv_slR (x := x) (i := h1) (j := v.1) (p := (h1 : Int) - 1 + 1) (by omega) rfl (tv_slot rfl) (tv_add (tv_slot rfl) tv_c) (tv_slot rfl) _ ⟨Nat.lt_of_lt_of_le (show 0 < 100000 by omega) (small (Nat.le_refl _)), ?_⟩
      refine ⟨trivial, _, rfl, rfl, _, _, rfl, _, _, rfl, _, _, rfl, rfl, ?_⟩
      refine tv_slR (x := y) (i := h2) (j := v.2.1) (p := (h2 : Int) - 1 + 1) (by omega) rfl (tv_slot rfl) (tv_add (tv_slot rfl) tv_c) (tv_slot rfl) _ ⟨Nat.lt_of_lt_of_le (show 1 < 100000 by omega) (small (Nat.le_refl _)), ?_⟩
      refine ⟨trivial, _, rfl, rfl, _, _, rfl, _, _, rfl, _, _, rfl, rfl, ?_⟩
      refine tv_slR (x := z) (i := h3) (j := v.2.2) (p := (h3 : Int) - 1 + 1) (by omega) rfl (tv_slot rfl) (tv_add (tv_slot rfl) tv_c) (tv_slot rfl) _ ⟨Nat.lt_of_lt_of_le (show 2 < 100000 by omega) (small (Nat.le_refl _)), ?_⟩
      exact ⟨trivial, newTr q⟩
    · have s10 : ∀ {x11 x12 x13 x14 : Option DL.D} {M : Mp}, TV (dSlot 10) [some (R x), some (R y), some (R z), some (.ref r), some (.dct (kc (grA x y)) (vc (grA x y))), some (.dct (kc (grA x z)) (vc (grA x z))), some (.ref p), some (.ref w), some (bD (h1, h2, h3)), some (plD v), some (.lst [R (cutN x h1 v.1), R (cutN y h2 v.2.1), R (cutN z h3 v.2.2)]), x11, x12, x13, x14] M (.lst [R (cutN x h1 v.1), R (cutN y h2 v.2.1), R (cutN z h3 v.2.2)]) := fun {x11 x12 x13 x14 M} => tv_slot rfl
      have sx := (hx.cut h1 v.1).sm
      have sy := (hy.cut h2 v.2.1).sm
      have sz := (hz.cut h3 v.2.2).sm
      have lp := cut1_len x v.1
      have step : ∀ s', mstep x y z (f, cl, h1, h2, h3) v = s' → ∀ x8 x9 x10 M'', SubM M M'' → M'' p = some (.lst (s'.1.map .str)) → M'' w = some (.lst (s'.2.1.map clD)) → M'' r = some (.lst (bD (0, 0, 0) :: (stab x y z).map plD)) →
          N [some (R x), some (R y), some (R z), some (.ref r), some (.dct (kc (grA x y)) (vc (grA x y))), some (.dct (kc (grA x z)) (vc (grA x z))), some (.ref p), some (.ref w), x8, x9, x10, none, none, none, none] M'' := by
        rintro s' e' x8 x9 x10 M'' k1 k2 k3 k4
        refine next _ _ ⟨_, _, _, rfl, k1, ?_, ?_, k4, ?_⟩
        · rw [e']; exact k2
        · rw [e']; exact k3
        · exact mstep_sm hx hy hz sm (by omega)
      have tail : ∀ (f' : Row) (cl' : List Cl) (M1 : Mp), mstep x y z (f, cl, h1, h2, h3) v = (f' ++ cutN x v.1 (v.1 + 1), cl', v.1 + 1, v.2.1 + 1, v.2.2 + 1) → f'.length ≤ 10000 → SubM M M1 → M1 p = some (.lst (f'.map .str)) → M1 w = some (.lst (cl'.map clD)) → M1 r = some (.lst (bD (0, 0, 0) :: (stab x y z).map plD)) →
          dDrop (dExtendT (dSlot 6) (dSl true (dSlot 0) (dPart (dOp rIxD (dSlot 9) (dC (.int 0)))) (dPart (dOp (rAddD true) (dOp rIxD (dSlot 9) (dC (.int 0))) (dC (.int 1)))))) { nx := N, ct := N, bk := fun _ _ => True, rt := Q }
          [some (R x), some (R y), some (R z), some (.ref r), some (.dct (kc (grA x y)) (vc (grA x y))), some (.dct (kc (grA x z)) (vc (grA x z))), some (.ref p), some (.ref w), some (bD (h1, h2, h3)), some (plD v), some (.lst [R (cutN x h1 v.1), R (cutN y h2 v.2.1), R (cutN z h3 v.2.2)]), none, none, none, none] M1 := by
        intro f' cl' M1 e' lf k1 k2 k3 k4
        refine drop_ ?_
        refine ext_ref (ys := (cutN x v.1 (v.1 + 1)).map .str) k2 (tv_slot rfl) (tv_slR (i := v.1) (j := v.1 + 1) rfl (by omega) s0 (tv_ix at3_0 s9 tv_c) (tv_add (tv_ix at3_0 s9 tv_c) tv_c)) rfl (by simp; omega) ?_
        refine step _ e' _ _ _ _ (k1.mu hp0 _) ?_ ?_ ?_
        · rw [mu_same, List.map_append]
        · rw [mu_ne nwp]; exact k3
        · rw [mu_ne npr.symm]; exact k4
      have some_ : ∀ u, taken (cutN x h1 v.1) (cutN y h2 v.2.1) (cutN z h3 v.2.2) = some u → mstep x y z (f, cl, h1, h2, h3) v = ((f ++ u) ++ cutN x v.1 (v.1 + 1), cl, v.1 + 1, v.2.1 + 1, v.2.2 + 1) := fun u hu => by
        unfold mstep; dsimp only; rw [hu]
      dsimp only
      refine seq_ (if_s (tb_b (tv_eqR sy sx (tv_ixL at3_1 s10 tv_c) (tv_ixL at3_0 s10 tv_c))) (fun hc => ?_) fun hc => ?_)
      · rw [decide_eq_true_eq] at hc
        have ht : taken (cutN x h1 v.1) (cutN y h2 v.2.1) (cutN z h3 v.2.2) = some (cutN z h3 v.2.2) := by unfold taken; rw [if_pos hc]
        have := cutN_len z h3 v.2.2
        refine drop_ (ext_ref (ys := (cutN z h3 v.2.2).map .str) ep (tv_slot rfl) (tv_ixL at3_2 s10 tv_c) rfl (by simp; omega) ?_)
        refine tail _ cl _ (some_ _ ht) (by simp; omega) (sub.mu hp0 _) (by rw [mu_same, List.map_append]) ?_ ?_
        · rw [mu_ne nwp]; exact ew
        · rw [mu_ne npr.symm]; exact er'
      · rw [decide_eq_false_iff_not] at hc
        dsimp only
        refine if_s (tb_or (tb_b (tv_eqR sz sx (tv_ixL at3_2 s10 tv_c) (tv_ixL at3_0 s10 tv_c))) fun _ => tb_b (tv_eqR sy sz (tv_ixL at3_1 s10 tv_c) (tv_ixL at3_2 s10 tv_c))) (fun hc2 => ?_) fun hc2 => ?_
        · have ht : taken (cutN x h1 v.1) (cutN y h2 v.2.1) (cutN z h3 v.2.2) = some (cutN y h2 v.2.1) := by
            unfold taken
            rw [if_neg hc, if_pos]
            simp at hc2
            exact hc2.imp id Eq.symm
          have := cutN_len y h2 v.2.1
          refine drop_ (ext_ref (ys := (cutN y h2 v.2.1).map .str) ep (tv_slot rfl) (tv_ixL at3_1 s10 tv_c) rfl (by simp; omega) ?_)
          refine tail _ cl _ (some_ _ ht) (by simp; omega) (sub.mu hp0 _) (by rw [mu_same, List.map_append]) ?_ ?_
          · rw [mu_ne nwp]; exact ew
          · rw [mu_ne npr.symm]; exact er'
        · have ht : taken (cutN x h1 v.1) (cutN y h2 v.2.1) (cutN z h3 v.2.2) = none := by
            unfold taken
            rw [if_neg hc, if_neg]
            simp at hc2
            rintro (h | h)
            · exact hc2.1 h
            · exact hc2.2 h.symm
          have e' : mstep x y z (f, cl, h1, h2, h3) v = (f ++ cutN x v.1 (v.1 + 1), cl ++ [(h1, v.1, cutN y h2 v.2.1, cutN z h3 v.2.2)], v.1 + 1, v.2.1 + 1, v.2.2 + 1) := by
            unfold mstep; dsimp only; rw [ht]
          have ad : ∀ {M : Mp}, TV (dOp (rAddD true) (dOp rIxD (dSlot 8) (dC (.int 0))) (dC (.int 1))) [some (R x), some (R y), some (R z), some (.ref r), some (.dct (kc (grA x y)) (vc (grA x y))), some (.dct (kc (grA x z)) (vc (grA x z))), some (.ref p), some (.ref w), some (bD (h1, h2, h3)), some (plD v), some (.lst [R (cutN x h1 v.1), R (cutN y h2 v.2.1), R (cutN z h3 v.2.2)]), none, none, none, none] M (.int (h1 : Nat)) := fun {M} => by
            have := tv_add (fz := true) (tv_ix (i := 0) at3_0 (s8 (x10 := some (.lst [R (cutN x h1 v.1), R (cutN y h2 v.2.1), R (cutN z h3 v.2.2)])) (x11 := none) (x12 := none) (x13 := none) (x14 := none) (M := M)) tv_c) (tv_c (d := .int 1))
            rw [show (h1 : Int) - 1 + 1 = h1 by omega] at this
            exact this
          refine drop_ (app_ref ew (tv_slot rfl) (tv_tup4 ad (tv_ix at3_0 s9 tv_c) (tv_ixL at3_1 s10 tv_c) (tv_ixL at3_2 s10 tv_c)) (by simp; omega) ?_)
          refine tail f _ _ e' (by omega) (sub.mu hw0 _) (by rw [mu_ne nwp.symm]; exact ep) ?_ ?_
          · rw [mu_same, List.map_append]; rfl
          · rw [mu_ne nwr.symm]; exact er'
  · rintro ρ M' ⟨x8, x9, x10, rfl, sub, ep, ew, er', sm⟩
    have e : (stab x y z).foldl (mstep x y z) ([], [], 0, 0, 0) = mrun x y z := rfl
    rw [e] at ep ew sm
    obtain ⟨g, dd⟩ := cls_gd (cl := (mrun x y z).2.1) (by have := sm.c; omega) sm.ct
    dsimp only
    refine ret_ (d := mres x y z) (tv_if (A := (mrun x y z).2.1.isEmpty) (tb_b fun Q q => ?_) (fun hc => ?_) fun hc => ?_) ?_
    · refine ⟨_, rfl, Nat.zero_le _, newTr ?_⟩
      obtain ⟨ps, ey, k1, k2, k3⟩ := pyAll_gd _ (gd_tup.mp g).2
      refine ⟨.list ps, .list [], ?_, rfl, ?_, by decide, ?_⟩
      · show (match mol (M' w) with | some xs => _ | none => none) = _
        rw [ew]
        show (match pyAll ((mrun x y z).2.1.map clD) with | some ps => some (PyData.list ps) | none => none) = _
        rw [ey]
      · unfold SeqAt.shaped
        have h1 : (PyData.list ps).canLay0 = true := by rw [PyData.canLay0]; exact k2
        have h2 : (PyData.list ps).depth ≤ 4 := by
          rw [PyData.depth, k3]
          rw [dep] at dd
          omega
        rw [h1, Bool.true_and, decide_eq_true_eq]
        omega
      · rw [if_neg (by simp), eqv_nil_lst]
        have : ps.isEmpty = (mrun x y z).2.1.isEmpty := by
          cases hcl : (mrun x y z).2.1 with
          | nil => rw [hcl] at ey; simp [pyAll] at ey; subst ey; rfl
          | cons c cs =>
            rw [hcl] at ey
            rw [List.map_cons] at ey
            simp only [pyAll] at ey
            split at ey
            · cases ey; rfl
            · cases ey
        rw [this]
        exact q
    · have : (mrun x y z).2.1 = [] := by simpa using hc
      unfold mres
      rw [if_pos this]
      exact tv_tup2 tv_c fun Q q => ⟨_, rfl, tupd_of (d := .ref p) (show mol (M' p) = _ by rw [ep]; rfl) q⟩
    · have : ¬ (mrun x y z).2.1 = [] := by simpa using hc
      unfold mres
      rw [if_neg this]
      exact tv_tup2 tv_c fun Q q => ⟨_, rfl, tupd_of (d := .ref w) (show mol (M' w) = _ by rw [ew]; rfl) q⟩
    · exact q M' sub
end K90

set_option maxHeartbeats 4000000
/-! K90c: the draws (turned from K83b, c). -/
namespace K90
open PySem PySem.Spec DL KB
open L2 (atI ixN)
open PyProof.Rows hiding St signs
def sp_take : DS1 := fun ds M Q => ∃ a u c, ds = [.ref a, .int u] ∧ Pot M a c ∧ c ≤ 100000 ∧ 0 < u ∧ u < 1000000 ∧ ∀ d M', 0 ≤ d → d < u → Dr M a M' (c + 1) → Q (.int d) M'
theorem rd_take : ∀ ds M Q, sp_take ds M Q → ds.length = 2 ∧ r__law_take { nx := fun _ M' => Q .non M', rt := Q } (dstart N__law_take ds) M := by
  rintro _ M Q ⟨a, u, c, rfl, ⟨own, mix, cnt, e, h1, h2, h3, h4, h5⟩, hc, hu, hu2, q⟩
  refine ⟨rfl, ?_⟩
  unfold r__law_take
  have hix : ∀ {M : Mp} {a : Addr} {xs : List DL.D} {i : Int} {d : DL.D} {Q : DK}, M a = some (.lst xs) → atI xs i = some d → Q d M → DL.rIxD (.ref a) (.int i) M Q := ix_ref
  have hil : ∀ {M : Mp} {xs : List DL.D} {i : Int} {d : DL.D} {Q : DK}, atI xs i = some d → Q d M → DL.rIxD (.lst xs) (.int i) M Q := fun h q => ⟨_, _, rfl, h, q⟩
  have hmul : ∀ {i j : Int} {M : Mp} {Q : DK}, i.natAbs < 2 ^ 64 → j.natAbs < 2 ^ 64 → Q (.int (i * j)) M → rMulD true (.int i) (.int j) M Q := mul_ok
  have hadd : ∀ {i j : Int} {M : Mp} {Q : DK}, Q (.int (i + j)) M → rAddD true (.int i) (.int j) M Q := fun q => q
  have hint : ∀ {i : Int} {M : Mp} {Q : DK}, Q (.int i) M → rIntD [.int i] M Q := fun q => q
  have hs0 : ∀ {x y z v : DL.D} {M : Mp} {a : Addr}, M a = some (.lst [x, y, z]) → ∀ {Q : Mp → Prop}, Q (mu M a (.lst [v, y, z])) → rSetD (.ref a) (.int 0) v M Q := set0
  have hs2 : ∀ {x y z v : DL.D} {M : Mp} {a : Addr}, M a = some (.lst [x, y, z]) → ∀ {Q : Mp → Prop}, Q (mu M a (.lst [x, y, v])) → rSetD (.ref a) (.int 2) v M Q := set2
  generalize DL.rIxD = R at hix hil ⊢
  generalize rMulD true = Rm at hmul ⊢
  generalize rAddD true = Ra at hadd ⊢
  generalize rIntD = Ri at hint ⊢
  generalize rSetD = Rs at hs0 hs2 ⊢
  refine ⟨_, rfl, hix e at3_0 ⟨_, _, rfl, rfl, trivial, _, rfl, ?_⟩⟩
  by_cases ho : 0 < own
  · rw [decide_eq_true ho]
    refine ⟨_, rfl, hix e at3_0 (hint ⟨_, rfl, _, _, rfl, rfl, hu, ?_⟩)⟩
    refine ⟨_, rfl, hix e at3_0 ⟨_, rfl, _, _, rfl, rfl, ⟨hu, by omega⟩, ?_⟩⟩
    refine ⟨_, rfl, hs0 e ⟨_, rfl, ?_⟩⟩
    refine q _ _ (Int.emod_nonneg _ (by omega)) (Int.emod_lt_of_pos _ hu) ⟨⟨_, mix, cnt, mu_same, Int.ediv_nonneg h1 (by omega), h2, h3, h4, by omega⟩, fun b hb => mu_ne hb⟩
  · rw [decide_eq_false ho]
    refine ⟨_, rfl, hix e at3_2 (hadd ⟨_, rfl, hs2 e ?_⟩)⟩
    have e2 : mu M a (.lst [.int own, .int mix, .int (cnt + 1)]) a = some (.lst [.int own, .int mix, .int (cnt + 1)]) := mu_same
    refine ⟨small (by simp), ?_⟩
    refine ⟨_, rfl, hix e2 at3_2 (hint ⟨_, _, rfl, rfl, (by decide : (0 : Int) < 5), ?_⟩)⟩
    obtain ⟨p, hp, p0, p1⟩ := primes (m := (cnt + 1) % 5) (Int.emod_nonneg _ (by decide)) (Int.emod_lt_of_pos _ (by decide))
    refine hil hp ?_
    have sq : (cnt + 1) * (cnt + 1) ≤ 100001 * 100001 := Int.mul_le_mul (by omega) (by omega) (by omega) (by decide)
    have sq0 : 0 ≤ (cnt + 1) * (cnt + 1) := Int.mul_nonneg (by omega) (by omega)
    have as1 : 97612 * (cnt + 1) * (cnt + 1) = 97612 * ((cnt + 1) * (cnt + 1)) := Int.mul_assoc _ _ _
    refine ⟨_, rfl, hix e2 at3_1 ⟨_, rfl, hix e2 at3_2 (hmul (by decide) (by omega) ⟨_, rfl, hix e2 at3_2 (hmul (by omega) (by omega) (hadd (hadd (hint ?_))))⟩)⟩⟩
    refine ⟨_, _, rfl, rfl, .inl ⟨by decide, by decide, ?_⟩, hint ?_⟩
    · rw [as1]
      omega
    refine ⟨_, rfl, _, _, rfl, rfl, p0, ?_⟩
    have b0 := Int.emod_nonneg ((mix + 97612 * (cnt + 1) * (cnt + 1) + 728) ^ (3 : Int).toNat) (b := p) (by omega)
    have b1 := Int.emod_lt_of_pos ((mix + 97612 * (cnt + 1) * (cnt + 1) + 728) ^ (3 : Int).toNat) p0
    refine ⟨_, rfl, _, rfl, hint ⟨_, _, rfl, rfl, (by decide : (0 : Int) < 10259), ?_⟩⟩
    refine ⟨_, rfl, hix e2 at3_2 (hmul (by decide) (by omega) (hadd (hmul (by omega) ?_ (hint ⟨_, _, rfl, rfl, (by decide : (0 : Int) < 2305843009213693907), ?_⟩))))⟩
    · omega
    · refine ⟨_, rfl, _, _, rfl, rfl, ⟨(by decide : (0 : Int) < 152), (by decide : (152 : Int).natAbs < 2 ^ 64)⟩, hint ⟨_, rfl, _, _, rfl, rfl, hu, ?_⟩⟩
      refine q _ _ (Int.emod_nonneg _ (by omega)) (Int.emod_lt_of_pos _ hu) ⟨⟨own, mix, cnt + 1, mu_same, h1, h2, h3, by omega, by omega⟩, fun b hb => mu_ne hb⟩
def sp_of : DS1 := fun ds M Q => ∃ a o c, ds = [.ref a, o] ∧ Pot M a c ∧ c ≤ 100000 ∧
  ((∃ xs, o = .lst xs ∧ 0 < xs.length ∧ xs.length < 1000000 ∧ ∀ d ∈ xs, ∀ M', Dr M a M' (c + 1) → Q d M') ∨
   ∃ x : Str, o = .str x ∧ 0 < x.cps.size ∧ x.cps.size ≤ 100000 ∧ ∀ ch ∈ x.cps.toList, ∀ M', Dr M a M' (c + 1) → Q (.str (sg ch)) M')
theorem rd_of : ∀ ds M Q, sp_of ds M Q → ds.length = 2 ∧ r__law_of sp_take { nx := fun _ M' => Q .non M', rt := Q } (dstart N__law_of ds) M := by
  rintro _ M Q ⟨a, o, c, rfl, p, hc, h⟩
  refine ⟨rfl, ?_⟩
  rcases h with ⟨xs, rfl, l0, l1, q⟩ | ⟨x, rfl, l0, l1, q⟩
  · refine ⟨_, rfl, _, rfl, _, rfl, xs, rfl, a, _, c, rfl, p, hc, by omega, by omega, fun d M' h0 h1 dr => ?_⟩
    obtain ⟨y, hy, e⟩ := at_in h0 h1
    exact ⟨xs, y, rfl, e, q y hy M' dr⟩
  · have sz : x.length = x.cps.size := rfl
    refine ⟨_, rfl, _, rfl, _, rfl, small l1, a, _, c, rfl, p, hc, by omega, by omega, fun d M' h0 h1 dr => ?_⟩
    obtain ⟨y, hy, e⟩ := at_in (xs := x.cps.toList) h0 (by rw [Array.length_toList]; omega)
    exact ⟨small l1, y, e, q y hy M' dr⟩
def oddL : List DL.D := [.non, .bl true, .bl false, .int 0, .int 1, .int (-1), .int 2, .int 44, .str "", .str "a", .str "A", .str "text", .str "copy", .tup [], .lst [], .tup [.int 0], .tup [.tup []], .lst [.int 0], .tup [.str "a"],
  .tup [.str "text", .str "a"], .tup [.str "copy", .tup [.str "text", .str "a"]], .tup [.non], .lst [.str "a"], .str (repS "a" 401), .str "/", .tup [.str "none"]]
theorem odd_fair : ∀ d ∈ oddL, fairB d = true := by decide +kernel
def sp_odd : DS1 := fun ds M Q => ∃ (a : Addr) (c : Nat), ds = [.ref a] ∧ Pot M a c ∧ c + 1 ≤ 100000 ∧ ∀ v M2, gd v = true → dep v ≤ 5 → wt v ≤ 1000 → Dr M a M2 (c + 1) → Q v M2
theorem rd_odd : ∀ ds M Q, sp_odd ds M Q → ds.length = 1 ∧ r__law_odd sp_of { nx := fun _ M' => Q .non M', rt := Q } (dstart N__law_odd ds) M := by
  rintro _ M Q ⟨a, c, rfl, p, hc, q⟩
  refine ⟨rfl, ?_⟩
  refine ⟨1, rfl, small (by simp), small (by simp), newTr ⟨small (by simp), small (by simp), small (by simp), small (by simp), newTr ⟨small (by simp), small (by simp), newTr ?_⟩⟩⟩
  refine ⟨_, rfl, small (by simp), small (by simp), small (by simp), small (by simp), small (by simp), newTr ⟨by decide, by decide, by decide, small (by simp), small (by simp), newTr ?_⟩⟩
  refine ⟨_, _, rfl, rfl, small (by simp), newTr ?_⟩
  refine ⟨_, rfl, _, rfl, a, _, c, rfl, p, by omega, .inl ⟨_, rfl, by simp, by simp, fun d hd M' dr => ?_⟩⟩
  obtain ⟨h1, h2, h3⟩ := fairB_iff.mp (odd_fair d hd)
  exact q d M' h1 h2 h3 dr

def sp_places : DS1 := fun ds M Q => ∃ ns : List Int, ds = [.slst (ns.map D.int), .int 4] ∧ ns.length ≤ 100000 ∧ ∀ n : Nat, n ≤ 4 → Q (.lst (rgD 0 n)) M
theorem rd_places : ∀ ds M Q, sp_places ds M Q → ds.length = 2 ∧ r__law_places { nx := fun _ M' => Q .non M', rt := Q } (dstart N__law_places ds) M := by
  rintro _ M Q ⟨ns, rfl, ln, q⟩
  refine ⟨rfl, ?_⟩
  refine ⟨_, rfl, _, rfl, _, rfl, _, _, rfl, _, _, rfl, _, rfl, ?_, ?_, newTr (q _ ?_)⟩
  all_goals
    rw [List.length_map]
    split <;> split <;> omega
def sp_pot : DS1 := fun ds M Q => ∃ (ns : List Int) (k : Nat), ds = [.slst (ns.map D.int), .int (k : Nat)] ∧ ns.length ≤ 100000 ∧ k ≤ 10 ∧ ∀ a M', M a = none → Pot M' a 0 → Q (.ref a) M'
theorem pot_cell {ns : List Int} {k : Nat} (ln : ns.length ≤ 100000) (hk : k ≤ 10) {M : Mp} (Q : DK) (q : ∀ cell : Int, Q (.int cell) M) :
    dIf (dB (dOp DL.rLtD (dSlot 1) (dCB DL.rLen (dCons (dSlot 0) dNil)))) (dOp DL.rIxD (dSlot 0) (dSlot 1)) (dOp (rAddD true) (dOp (rAddD true) (dOp (rInt (fun _ j => 0 < j) fun i j => .int (i % j)) (dCB rSumD (dCons (dSl true (dSlot 0) dNoPart (dPart (dC (.int 1)))) dNil)) (dC (.int 1000003))) (dOp (rMulD true) (dC (.int 13201)) (dSlot 1))) (dC (.int 521)))
      [some (.slst (ns.map D.int)), some (.int (k : Nat)), none, none, none] M Q := by
  refine ⟨_, rfl, _, rfl, _, rfl, decide ((k : Int) < ((ns.map D.int).length : Int)), rfl, ?_⟩
  by_cases h : (k : Int) < ((ns.map D.int).length : Int)
  · rw [decide_eq_true h]
    obtain ⟨y, hy, e⟩ := at_in (xs := ns.map D.int) (d := (k : Int)) (by omega) h
    obtain ⟨cell, _, rfl⟩ := List.mem_map.mp hy
    exact ⟨_, rfl, _, rfl, _, _, rfl, e, q cell⟩
  · rw [decide_eq_false h]
    refine ⟨_, rfl, 1, rfl, _, rfl, newTr ⟨_, ns.take 1, rfl, ?_, _, _, rfl, rfl, (by decide : (0 : Int) < 1000003), _, rfl, mul_ok (by decide) (by omega) (q _)⟩⟩
    show some (DL.cutD (ns.map D.int) none (some ((1 : Nat) : Int))) = _
    rw [cut_to, List.map_take]

theorem rd_pot : ∀ ds M Q, sp_pot ds M Q → ds.length = 2 ∧ r__law_pot { nx := fun _ M' => Q .non M', rt := Q } (dstart N__law_pot ds) M := by
  rintro _ M Q ⟨ns, k, rfl, ln, hk, q⟩
  refine ⟨rfl, ?_⟩
  refine pot_cell ln hk _ fun cell => ?_
  have hmul : ∀ {i j : Int} {M : Mp} {Q : DK}, i.natAbs < 2 ^ 64 → j.natAbs < 2 ^ 64 → Q (.int (i * j)) M → rMulD true (.int i) (.int j) M Q := mul_ok
  have hmulW : ∀ {i j : Int} {M : Mp} {Q : DK}, i.natAbs < 2 ^ 1000 → j.natAbs < 2 ^ 64 → Q (.int (i * j)) M → rMulD true (.int i) (.int j) M Q := fun h1 h2 q => ⟨⟨1000, 64, h1, h2, by decide⟩, q⟩
  have hadd : ∀ {i j : Int} {M : Mp} {Q : DK}, Q (.int (i + j)) M → rAddD true (.int i) (.int j) M Q := fun q => q
  have hint : ∀ {i : Int} {M : Mp} {Q : DK}, Q (.int i) M → rIntD [.int i] M Q := fun q => q
  have hbl : ∀ {b : Bool} {M : Mp} {Q : DK}, Q (.int (if b = true then 1 else 0)) M → rIntD [.bl b] M Q := fun q => q
  have habs : ∀ {i : Int} {M : Mp} {Q : DK}, Q (.int (if i < 0 then -i else i)) M → rAbsD [.int i] M Q := fun q => ⟨_, rfl, q⟩
  have hp1 : ∀ {M : Mp} {Q : DK}, Q (.int ((10 : Int) ^ (60 : Int).toNat)) M → rPowD (.int 10) (.int 60) M Q := fun q => ⟨_, _, rfl, rfl, .inl ⟨by decide, by decide, by decide⟩, q⟩
  have hp2 : ∀ {M : Mp} {Q : DK}, Q (.int PW) M → rPowD (.int ((10 : Int) ^ (60 : Int).toNat)) (.int 5) M Q := fun q => ⟨_, _, rfl, rfl, .inr bits60, q⟩
  have hp3 : ∀ {M : Mp} {Q : DK}, Q (.int ((10 : Int) ^ (18 : Int).toNat)) M → rPowD (.int 10) (.int 18) M Q := fun q => ⟨_, _, rfl, rfl, .inl ⟨by decide, by decide, by decide⟩, q⟩
  have own : ∀ b : Bool, 0 ≤ ((if cell < 0 then -cell else cell) % PW) * (if b = true then 1 else 0) := fun b => by
    refine Int.mul_nonneg (Int.emod_nonneg _ (by have := PW_pos; omega)) ?_
    cases b <;> decide
  have own2 : ((if cell < 0 then -cell else cell) % PW).natAbs < 2 ^ 1000 := by
    have h0 := Int.emod_nonneg (if cell < 0 then -cell else cell) (b := PW) (by have := PW_pos; omega)
    have h1 := Int.emod_lt_of_pos (if cell < 0 then -cell else cell) PW_pos
    have h2 := PW_lt
    generalize (if cell < 0 then -cell else cell) % PW = z at h0 h1
    have h3 : z < 2 ^ 1000 := Int.lt_trans h1 h2
    have h4 : ((z.natAbs : Nat) : Int) = z := Int.natAbs_of_nonneg h0
    have h5 : ((z.natAbs : Nat) : Int) < ((2 ^ 1000 : Nat) : Int) := by rw [h4]; exact h3
    exact Int.ofNat_lt.mp h5
  have one : ∀ b : Bool, (if b = true then (1 : Int) else 0).natAbs < 2 ^ 64 := fun b => by cases b <;> decide
  have PWp := PW_pos
  generalize PW = W at hp2 own own2 PWp
  generalize rMulD true = Rm at hmul hmulW ⊢
  generalize rAddD true = Ra at hadd ⊢
  generalize rIntD = Ri at hint hbl ⊢
  generalize rAbsD = Rb at habs ⊢
  generalize rPowD = Rp at hp1 hp2 hp3 ⊢
  refine ⟨_, rfl, habs (hint (hp1 (hp2 ⟨_, _, rfl, rfl, PWp, _, rfl, habs (hp3 ⟨_, _, rfl, rfl, trivial, hbl (hmulW own2 (one _) ?_)⟩)⟩)))⟩
  refine ⟨_, rfl, hint ⟨_, _, rfl, rfl, (by decide : (0 : Int) < 2305843009213693951), ?_⟩⟩
  have s0 := Int.emod_nonneg cell (b := 2305843009213693951) (by decide)
  have s1 := Int.emod_lt_of_pos cell (b := 2305843009213693951) (by decide)
  refine ⟨_, rfl, _, rfl, hmul (by omega) (by decide) ⟨_, rfl, hmul (by decide) (by omega) ⟨_, rfl, hmul (by omega) (by omega) (hadd (hadd (hint ⟨_, _, rfl, rfl, (by decide : (0 : Int) < 2305843009213693921), small (by simp), ?_⟩)))⟩⟩⟩
  intro a ha
  refine q a _ ha ⟨_, _, 0, mu_same, own _, Int.emod_nonneg _ (by decide), ?_, by decide, by decide⟩
  have := Int.emod_lt_of_pos (cell % 2305843009213693951 * 101179 + 17783 * (k : Int) * (k : Int) + 928) (b := 2305843009213693921) (by decide)
  omega
mutual
def tree : DL.D → Bool
  | .str _ => true
  | .int i => decide (i.natAbs ≤ 1000)
  | .tup xs => treeAll xs
  | _ => false
def treeAll : List DL.D → Bool
  | [] => true
  | x :: xs => tree x && treeAll xs
end
theorem treeAll_iff : ∀ {xs : List DL.D}, treeAll xs = true ↔ ∀ x ∈ xs, tree x = true
  | [] => by simp [treeAll]
  | x :: xs => by simp [treeAll, treeAll_iff (xs := xs)]
theorem tree_tup {xs : List DL.D} : tree (.tup xs) = true ↔ ∀ x ∈ xs, tree x = true := by
  rw [tree, treeAll_iff]
def sp_bent (N : Nat) : DS1 := fun ds M Q => ∃ (a : Addr) (v : DL.D) (c : Nat), ds = [.ref a, v] ∧ Pot M a c ∧ tree v = true ∧ gd v = true ∧ dep v < N ∧ dep v ≤ 50 ∧ c + (3 * N + 5) ≤ 100000 ∧ wt v ≤ 3000 ∧
  ∀ v' M2, gd v' = true → dep v' ≤ dep v + 1 → wt v' ≤ 2 * wt v + 10 → Dr M a M2 (c + (3 * N + 5)) → Q v' M2

/-- a small number's text -/
theorem int_text (i : Int) (h : i.natAbs ≤ 1000) : gd (.str (toString i)) = true ∧ ((toString i : String) : Str).cps.size ≤ 10 := by
  have l : ((toString i : String) : Str).cps.size ≤ 5 := by
    have := PySem.int_text_length_le10 (a := i) (k := 4) (by decide) (by omega)
    have e := PySem.ofString_length (toString i)
    show (Str.ofString (toString i)).length ≤ 5
    rw [e]; exact this
  refine ⟨gd_str.mpr ⟨by omega, fun c hc => ?_⟩, by omega⟩
  by_cases h2 : c < 128
  · exact h2
  · exact absurd hc (PyProof.Rows.int_text_free' c ⟨by omega, .inr (by omega)⟩ i)
theorem rd_bent (N : Nat) : ∀ ds M Q, sp_bent (N + 1) ds M Q → ds.length = 2 ∧ r__law_bent sp_take (sp_bent N) sp_of sp_odd { nx := fun _ M' => Q .non M', rt := Q } (dstart N__law_bent ds) M := by
  rintro _ M Q ⟨a, v, c, rfl, p, tv, gv, dN, d50, hc, w3, q⟩
  refine ⟨rfl, ?_⟩
  cases v
  case tup xs =>
    obtain ⟨gl, ga⟩ := gd_tup.mp gv
    have tx := tree_tup.mp tv
    have wx : wtAll xs ≤ 3000 := w3
    have lx := wtAll_len xs
    -- what is left when the tuple is taken whole
    have whole : ∀ M1 c1, c1 ≤ c + 1 → Dr M a M1 c1 → ∀ D : DEnds, D.rt = Q → dIfS (dB (dIsi "tuple" (dSlot 1))) (dRet (dCall1 sp_of (dCons (dSlot 0) (dCons (dLst true (dCons (dCB (rListD true) (dCons (dSlot 1) dNil)) (dCons (dSl true (dSlot 1) (dPart (dC (.int 1))) dNoPart) (dCons (dSl true (dSlot 1) dNoPart (dPart (dNeg (dC (.int 1))))) (dCons (dOp (rAddD true) (dSlot 1) (dSl true (dSlot 1) (dPart (dNeg (dC (.int 1)))) dNoPart)) (dCons (dRevS true (dSlot 1)) (dCons (dTup dNil) (dCons (dC .non) dNil)))))))) dNil)))) dNext D [some (.ref a), some (.tup xs), none, none] M1 := by
      rintro M1 c1 h1 d1 ⟨_, _, _, _⟩ rfl
      refine ⟨_, rfl, _, rfl, true, rfl, ?_⟩
      refine ⟨_, rfl, ?_⟩
      refine ⟨_, rfl, _, xs, rfl, rfl, newTr ?_⟩
      refine ⟨_, rfl, 1, rfl, ?_⟩
      refine ⟨_, rfl, 1, rfl, -1, rfl, ?_⟩
      refine ⟨_, rfl, _, rfl, 1, rfl, -1, rfl, ?_⟩
      have l2 : (DL.cutD xs (some (-1)) none).length ≤ 3000 := by
        have := wtAll_len (DL.cutD xs (some (-1)) none)
        have := wtAll_cut xs (some (-1)) none
        omega
      refine ⟨small (n := xs.length + (DL.cutD xs (some (-1)) none).length) (by omega), ?_⟩
      refine ⟨_, rfl, ?_⟩
      refine ⟨small (by simp), small (by simp), newTr ?_⟩
      refine ⟨a, _, c1, rfl, d1.1, by omega, .inl ⟨_, rfl, by simp, by simp, fun d hd M2 d2 => ?_⟩⟩
      have dr : Dr M a M2 (c + (3 * (N + 1) + 5)) := (d1.trans d2).up (by omega)
      simp at hd
      rcases hd with rfl | rfl | rfl | rfl | rfl | rfl | rfl
      · obtain ⟨h1, h2, h3⟩ := some_items gv wx (ys := xs) (fun y h => h) (by omega)
        exact q _ _ (gd_lst.mpr (gd_tup.mp h1)) h2 h3 dr
      · obtain ⟨h1, h2, h3⟩ := some_items gv wx (ys := DL.cutD xs (some 1) none) (fun y h => cut_mem h) (by have := wtAll_cut xs (some 1) none; omega)
        exact q _ _ h1 h2 h3 dr
      · obtain ⟨h1, h2, h3⟩ := some_items gv wx (ys := DL.cutD xs none (some (-1))) (fun y h => cut_mem h) (by have := wtAll_cut xs none (some (-1)); omega)
        exact q _ _ h1 h2 h3 dr
      · obtain ⟨h1, h2, h3⟩ := some_items gv wx (ys := xs ++ DL.cutD xs (some (-1)) none) (fun y h => (List.mem_append.mp h).elim id cut_mem) (by rw [wtAll_append]; have := wtAll_cut xs (some (-1)) none; omega)
        exact q _ _ h1 h2 h3 dr
      · obtain ⟨h1, h2, h3⟩ := some_items gv wx (ys := xs.reverse) (fun y h => List.mem_reverse.mp h) (by rw [wtAll_rev]; omega)
        exact q _ _ h1 h2 h3 dr
      · obtain ⟨h1, h2, h3⟩ := some_items gv wx (ys := []) (fun y h => nomatch h) (by simp [wtAll])
        exact q _ _ h1 h2 h3 dr
      · exact q _ _ rfl (by simp [dep]) (by simp [wt]) dr
    refine ⟨_, rfl, _, rfl, true, rfl, ?_⟩
    refine ⟨_, rfl, small (by simp), ne_unit gv (by omega) ⟨_, rfl, ?_⟩⟩
    cases xs with
    | nil => exact whole M c (by omega) (Dr.refl p) _ rfl
    | cons x xs =>
      refine ⟨_, rfl, a, 5, c, rfl, p, by omega, by omega, by omega, fun d M1 h0 h1 d1 => ?_⟩
      refine ⟨_, _, rfl, rfl, trivial, decide (0 < d), rfl, ?_⟩
      by_cases hd : 0 < d
      · rw [decide_eq_true hd]
        refine ⟨_, rfl, _, rfl, _, rfl, a, _, c + 1, rfl, d1.1, by omega, by simp, by omega, fun at_ M2 e0 e1 d2 => ?_⟩
        obtain ⟨k, rfl⟩ := Int.eq_ofNat_of_zero_le e0
        have hk : k < (x :: xs).length := by omega
        have hy : (x :: xs)[k] ∈ x :: xs := List.getElem_mem hk
        have ee : atI (x :: xs) (k : Int) = some (x :: xs)[k] := L2.atI_nat (List.getElem?_eq_getElem hk)
        generalize hyk : (x :: xs)[k] = y at hy ee
        have wy := wt_mem hy
        have dy : dep y ≤ depAll (x :: xs) := depAll_le.mp (Nat.le_refl _) y hy
        have dv : dep (.tup (x :: xs)) = depAll (x :: xs) + 1 := rfl
        have wv : wt (.tup (x :: xs)) = wtAll (x :: xs) := rfl
        refine ⟨_, rfl, _, rfl, _, rfl, ?_⟩
        refine ⟨_, rfl, _, rfl, _, rfl, x :: xs, y, rfl, ee, a, y, c + 2, rfl, d2.1, tx y hy, ga y hy, by omega, by omega, by omega, by omega, fun y' M3 g3 dp3 w3 d3 => ?_⟩
        refine ⟨small (by simp), ?_⟩
        have t1 := List.length_take_le k (x :: xs)
        have t2 : ((x :: xs).drop (k + 1)).length ≤ (x :: xs).length := by rw [List.length_drop]; omega
        show rAddD true (.tup (DL.cutD (x :: xs) none (some (k : Int)))) (.tup [y']) M3 _
        rw [cut_to]
        refine add_tups ?_ ?_
        · have : [y'].length = 1 := rfl
          omega
        refine ⟨_, rfl, _, rfl, _, rfl, ?_⟩
        show rAddD true (.tup ((x :: xs).take k ++ [y'])) (.tup (DL.cutD (x :: xs) (some (((k + 1 : Nat)) : Int)) none)) M3 Q
        rw [cut_from]
        refine add_tups ?_ ?_
        · rw [List.length_append]
          have : [y'].length = 1 := rfl
          omega
        have mem : ∀ z ∈ (x :: xs).take k ++ [y'] ++ (x :: xs).drop (k + 1), z ∈ x :: xs ∨ z = y' := by
          intro z hz
          rcases List.mem_append.mp hz with h | h
          · rcases List.mem_append.mp h with h | h
            · exact .inl (List.mem_of_mem_take h)
            · exact .inr (List.mem_singleton.mp h)
          · exact .inl (List.mem_of_mem_drop h)
        refine q _ _ (gd_tup.mpr ⟨?_, ?_⟩) ?_ ?_ (((d1.trans d2).trans d3).up (by omega))
        · rw [List.length_append, List.length_append]
          have : [y'].length = 1 := rfl
          omega
        · intro z hz
          rcases mem z hz with h | h
          · exact ga z h
          · rw [h]; exact g3
        · have : depAll ((x :: xs).take k ++ [y'] ++ (x :: xs).drop (k + 1)) ≤ depAll (x :: xs) + 1 := depAll_le.mpr fun z hz => by
            rcases mem z hz with h | h
            · have := depAll_le.mp (Nat.le_refl _) z h
              omega
            · rw [h]; omega
          rw [dv]
          simp only [dep]
          omega
        · have h1 := wtAll_take (x :: xs) k
          have h2 : (x :: xs).drop k = y :: (x :: xs).drop (k + 1) := by rw [← hyk]; exact List.drop_eq_getElem_cons hk
          have h3 : wtAll ((x :: xs).drop k) = wt y + 1 + wtAll ((x :: xs).drop (k + 1)) := by rw [h2]; rfl
          have h4 : wtAll [y'] = wt y' + 1 := by simp [wtAll]
          rw [wv]
          simp only [wt]
          rw [wtAll_append, wtAll_append, h4]
          omega
      · rw [decide_eq_false hd]
        exact whole M1 (c + 1) (by omega) d1 _ rfl
  case str x =>
    obtain ⟨sx, cx⟩ := gd_str.mp gv
    have wx : x.cps.size ≤ 3000 := w3
    have dz : dep (.str x) = 0 := rfl
    have wz : wt (.str x) = x.cps.size := rfl
    refine ⟨_, rfl, _, rfl, false, rfl, ?_⟩
    refine ⟨_, rfl, _, rfl, false, rfl, ?_⟩
    refine ⟨_, rfl, _, rfl, false, rfl, ?_⟩
    refine ⟨_, rfl, _, rfl, false, rfl, ?_⟩
    refine ⟨_, rfl, _, rfl, true, rfl, ?_⟩
    have one : ∀ y : Str, y.cps.size = 1 → x.cps.size + y.cps.size ≤ 100000 := fun y h => by omega
    refine ⟨_, rfl, ?_⟩
    refine ⟨small (one "a" rfl), ?_⟩
    refine ⟨_, rfl, 1, rfl, -1, rfl, small sx, ?_⟩
    refine ⟨_, rfl, x, rfl, ?_, ?_⟩
    · show x.cps.size ≤ _
      omega
    refine ⟨_, rfl, small (by simp), newTr ⟨_, rfl, ?_⟩⟩
    refine ⟨small (n := (Str.ofString "b").cps.size + x.cps.size) (by have : (Str.ofString "b").cps.size = 1 := rfl; omega), ?_⟩
    refine ⟨_, rfl, ?_⟩
    refine ⟨small (one "/" rfl), ?_⟩
    refine ⟨small (by simp), newTr ?_⟩
    refine ⟨_, rfl, _, rfl, a, _, c, rfl, p, by omega, .inl ⟨_, rfl, by simp, by simp, fun d hd M2 d2 => ?_⟩⟩
    have dr : Dr M a M2 (c + (3 * (N + 1) + 5)) := d2.up (by omega)
    have lit : ∀ y : Str, gd (.str y) = true → y.cps.size ≤ 1 → Q (.str y) M2 := fun y g l => q _ _ g (by simp [dep]) (by simp only [wt]; omega) dr
    have app : ∀ y z : Str, gd (.str y) = true → gd (.str z) = true → y.cps.size + z.cps.size = x.cps.size + 1 → Q (.str (y ++ z)) M2 := fun y z g1 g2 l => by
      obtain ⟨h1, h2⟩ := gd_app g1 g2 (by omega)
      exact q _ _ h1 (by simp [dep]) (by simp only [wt]; omega) dr
    simp at hd
    rcases hd with rfl | rfl | rfl | rfl | rfl | rfl | rfl | rfl | rfl | rfl
    · exact app x _ gv rfl rfl
    · obtain ⟨h1, h2⟩ := gd_cut gv none (some (-1))
      exact q _ _ h1 (by simp [dep]) (by simp only [wt]; omega) dr
    · obtain ⟨h1, h2⟩ := up_small cx
      exact q _ _ (gd_str.mpr ⟨by omega, h2⟩) (by simp [dep]) (by simp only [wt]; omega) dr
    · exact q _ _ (gd_lst.mpr ⟨by simp, fun y hy => by rw [List.mem_singleton.mp hy]; exact gv⟩) (by simp [dep, depAll]) (by simp only [wt, wtAll]; omega) dr
    · exact lit _ rfl (by decide)
    · exact q _ _ rfl (by simp [dep]) (by simp [wt]) dr
    · exact q _ _ rfl (by simp [dep]) (by simp [wt]) dr
    · exact lit _ rfl (by decide)
    · exact app _ x rfl gv (by have : (Str.ofString "b").cps.size = 1 := rfl; omega)
    · exact app x _ gv rfl rfl
  case int i =>
    have hi : i.natAbs ≤ 1000 := by simpa [tree] using tv
    refine ⟨_, rfl, _, rfl, false, rfl, ?_⟩
    refine ⟨_, rfl, _, rfl, false, rfl, ?_⟩
    refine ⟨_, rfl, _, rfl, false, rfl, ?_⟩
    refine ⟨_, rfl, _, rfl, true, rfl, ?_⟩
    have lg : ∀ j : Int, j.natAbs ≤ 1001 → j.natAbs.log2 < 1900 := fun j hj => by
      have : j.natAbs < 2 ^ 1900 := Nat.lt_of_le_of_lt hj (Nat.lt_of_lt_of_le (by decide : 1001 < 2 ^ 10) (Nat.pow_le_pow_right (by decide) (by decide)))
      by_cases z : j.natAbs = 0
      · rw [z]; decide
      · exact (Nat.log2_lt z).mpr this
    refine ⟨_, rfl, _, rfl, _, rfl, _, _, rfl, rfl, trivial, ?_⟩
    refine ⟨_, rfl, i, rfl, ?_⟩
    refine ⟨_, rfl, i, rfl, Nat.lt_trans (lg i (by omega)) (by decide), ?_⟩
    refine ⟨_, rfl, ?_⟩
    refine ⟨_, rfl, small (by simp), small (by simp), newTr ?_⟩
    refine ⟨a, _, c, rfl, p, by omega, .inl ⟨_, rfl, by simp, by simp, fun d hd M2 d2 => ?_⟩⟩
    have dr : Dr M a M2 (c + (3 * (N + 1) + 5)) := d2.up (by omega)
    have num : ∀ j : Int, j.natAbs ≤ 1001 → Q (.int j) M2 := fun j hj => q _ _ (by simp only [gd]; exact decide_eq_true (lg j hj)) (by simp [dep]) (by simp [wt]) dr
    simp at hd
    rcases hd with rfl | rfl | rfl | rfl | rfl | rfl | rfl
    · exact num _ (by omega)
    · exact num _ (by omega)
    · exact num _ (by omega)
    · have t4 := int_text i hi
      exact q _ _ t4.1 (by simp [dep]) (by have := t4.2; simp only [wt]; omega) dr
    · exact q _ _ rfl (by simp [dep]) (by simp [wt]) dr
    · exact q _ _ rfl (by simp [dep]) (by simp [wt]) dr
    · exact q _ _ (gd_tup.mpr ⟨by simp, fun y hy => by rw [List.mem_singleton.mp hy]; simp only [gd]; exact decide_eq_true (lg i (by omega))⟩) (by simp [dep, depAll]) (by simp only [wt, wtAll]; omega) dr
  all_goals simp [tree] at tv
end K90

set_option maxHeartbeats 4000000
/-! K90q: _law_rows, _law_edited. -/
namespace K90
open PySem PySem.Spec DL KB
open L2 (atI ixN)
open PyProof.Rows hiding St signs
def TX : List Str := ["a", "b", "cc", "", "x", "y"]
def dR (a : Row) : Prop := ∀ x ∈ a, x ∈ TX
theorem tx_all : ∀ x ∈ TX, textB (.str x) 100 = true ∧ x.cps.size ≤ 2 := by decide +kernel
theorem dR.ok {a : Row} (h : dR a) (l : a.length ≤ 40) : okRow a := ⟨l, fun x hx => (tx_all x (h x hx)).1⟩
theorem dR.cut {a : Row} (h : dR a) (i j : Nat) : dR (cutN a i j) := fun x hx => h x (List.mem_of_mem_drop (List.mem_of_mem_take hx))
theorem tx_list {xs : List DL.D} (h : ∀ d ∈ xs, ∃ x ∈ TX, d = .str x) : ∃ a : Row, xs = a.map .str ∧ dR a := by
  induction xs with
  | nil => exact ⟨[], rfl, fun _ h => nomatch h⟩
  | cons d xs ih =>
    obtain ⟨a, e, h2⟩ := ih fun y hy => h y (List.mem_cons_of_mem _ hy)
    obtain ⟨x, hx, rfl⟩ := h d List.mem_cons_self
    exact ⟨x :: a, by rw [e]; rfl, fun y hy => by
      rcases List.mem_cons.mp hy with rfl | hy
      · exact hx
      · exact h2 y hy⟩
def sp_rows : DS1 := fun ds M Q => ∃ (p : Addr) (c : Nat) (xs : List DL.D), ds = [.ref p, .lst xs, .int 5] ∧ Pot M p c ∧ c ≤ 1000 ∧ 0 < xs.length ∧ xs.length ≤ 100 ∧ (∀ d ∈ xs, ∃ x ∈ TX, d = .str x) ∧ ∀ a M', dR a → a.length ≤ 5 → Dr M p M' (c + 7) → Q (R a) M'
theorem rd_rows : ∀ ds M Q, sp_rows ds M Q → ds.length = 3 ∧ r__law_rows sp_take sp_of { nx := fun _ M' => Q .non M', rt := Q } (dstart N__law_rows ds) M := by
  rintro _ M Q ⟨p, c, xs, rfl, pot, hc, l0, l1, hxs, q⟩
  refine ⟨rfl, ?_⟩
  refine ⟨_, rfl, _, rfl, p, _, c, rfl, pot, by omega, by decide, by decide, fun d M1 d0 d1 dr => ?_⟩
  refine ⟨d, rfl, by omega, by omega, ?_⟩
  have hn : d.toNat ≤ 5 := by omega
  refine lc_inv (fun n M' => Dr M p M' (c + 1 + n)) (fun d => ∃ x ∈ TX, d = .str x) (fun _ _ _ => trivial) (rgD 0 d.toNat) [] M1 dr (fun _ h => nomatch h) (fun x hx n M' i hlt K1 K2 k => ?_) (by rw [rg_len]; exact small (by simp; omega)) fun ds M' hl hp i => ?_
  · rw [rg_len] at hlt
    simp at hlt
    refine ⟨_, rfl, _, rfl, p, _, c + 1 + n, rfl, i.1, by omega, .inl ⟨xs, rfl, l0, by omega, fun y hy M2 dr2 => k y M2 (hxs y hy) (i.trans dr2)⟩⟩
  · rw [rg_len] at hl
    simp at hl
    obtain ⟨a, rfl, ha⟩ := tx_list hp
    rw [List.length_map] at hl i
    refine newTr (tupd_of (d := .lst _) rfl (q a M' ha (by omega) (i.up (by omega))))
/-! ### _law_edited -/
def sp_edited0 : DS1 := fun ds M Q => ∃ (p : Addr) (c : Nat) (a : Row), ds = [.ref p, R a] ∧ Pot M p c ∧ c ≤ 1000 ∧ dR a ∧ a.length ≤ 5 ∧ ∀ b M' M2, dR b → b.length ≤ 8 → SubM M2 M' → Dr M p M2 (c + 10) → Q (R b) M'
def sp_edited : DS1 := fun ds M Q => ∃ (p : Addr) (c : Nat) (a : Row), ds = [.ref p, R a] ∧ Pot M p c ∧ c ≤ 1000 ∧ dR a ∧ a.length ≤ 5 ∧ ∀ b M', dR b → b.length ≤ 8 → Dr M p M' (c + 10) → Q (R b) M'
theorem wk_edited : ∀ ds M Q, sp_edited ds M Q → sp_edited0 ds M fun d M1 => ∃ M2, SubM M2 M1 ∧ Q d M2 :=
  fun _ M _ ⟨p, c, a, e, pot, hc, ha, la, q⟩ => ⟨p, c, a, e, pot, hc, ha, la, fun b M' M2 hb lb s dr => ⟨M2, s, q b M2 hb lb dr⟩⟩
theorem erase_map {α β : Type} (f : α → β) : ∀ (l : List α) (i : Nat), (l.map f).eraseIdx i = (l.eraseIdx i).map f
  | [], _ => rfl
  | _ :: _, 0 => rfl
  | x :: l, i + 1 => by
    show f x :: (l.map f).eraseIdx i = f x :: (l.eraseIdx i).map f
    rw [erase_map f l i]
theorem mem_set {α : Type} {xs : List α} {i : Nat} {v y : α} (h : y ∈ xs.set i v) : y ∈ xs ∨ y = v := List.mem_or_eq_of_mem_set h
theorem rd_edited : ∀ ds M Q, sp_edited0 ds M Q → ds.length = 2 ∧ r__law_edited sp_take sp_of { nx := fun _ M' => Q .non M', rt := Q } (dstart N__law_edited ds) M := by
  rintro _ M Q ⟨p, c, a, rfl, pot, hc, ha, la, q⟩
  refine ⟨rfl, ?_⟩
  refine ⟨_, rfl, _, _, rfl, rfl, fun w hw => ?_⟩
  have nwp : w ≠ p := pot.ne hw
  have pot1 : Pot (mu M w (.lst (a.map .str))) p c := pot.at (mu_ne nwp.symm)
  refine ⟨_, rfl, p, _, c, rfl, pot1, by omega, by decide, by decide, fun d M1 d0 d1 dr => ?_⟩
  refine ⟨d, rfl, by omega, by omega, ?_⟩
  have hn : d.toNat ≤ 3 := by omega
  have e1 : M1 w = some (.lst (a.map .str)) := by rw [dr.2 w nwp, mu_same]
  refine for_cnt _ d.toNat (fun n ρ M' => ∃ f x3 x4 x5, ρ = [some (.ref p), some (R a), some (.ref w), x3, x4, x5] ∧ M' w = some (.lst (f.map .str)) ∧ dR f ∧ f.length ≤ 5 + n ∧ Pot M' p (c + 1 + 3 * n) ∧ ∀ b, b ≠ p → b ≠ w → M' b = M b) (fun _ _ _ _ => trivial) ?_ ?_
    ⟨a, _, _, _, rfl, e1, ha, by omega, dr.1, fun b h1 h2 => by rw [dr.2 b h1, mu_ne h2]⟩
  · rintro k hk ρ M2 ⟨f, x3, x4, x5, rfl, ew, hf, lf, pt, oth⟩ N next
    have more : ∀ (f' : Row) x4 x5 M3 c', M3 w = some (.lst (f'.map .str)) → dR f' → f'.length ≤ 6 + k → Pot M3 p c' → c' ≤ c + 4 + 3 * k → (∀ b, b ≠ p → b ≠ w → M3 b = M2 b) → N [some (.ref p), some (R a), some (.ref w), some (.int (0 + (k : Nat))), x4, x5] M3 := fun f' x4 x5 M3 c' h1 h2 h3 h4 h5 h6 => by
      refine next _ _ ⟨f', _, _, _, rfl, h1, h2, by omega, h4.up (by omega), fun b e1 e2 => by rw [h6 b e1 e2, oth b e1 e2]⟩
    refine ⟨_, rfl, _, rfl, _, (show mol (M2 w) = _ by rw [ew]; rfl), ?_⟩
    rw [List.length_map]
    refine ⟨p, _, _, rfl, pt, by omega, by omega, by omega, fun at' M3 a0 a1 dr3 => ?_⟩
    have ew3 : M3 w = some (.lst (f.map .str)) := by rw [dr3.2 w nwp]; exact ew
    refine ⟨_, rfl, p, _, _, rfl, dr3.1, by omega, by decide, by decide, fun way M4 w0 w1 dr4 => ?_⟩
    have ew4 : M4 w = some (.lst (f.map .str)) := by rw [dr4.2 w nwp]; exact ew3
    refine ⟨_, _, rfl, ?_⟩
    obtain ⟨n, hn⟩ : ∃ n : Nat, at' = (n : Nat) := ⟨at'.toNat, by omega⟩
    subst hn
    have same : ∀ b, b ≠ p → b ≠ w → M4 b = M2 b := fun b e1 e2 => by rw [dr4.2 b e1, dr3.2 b e1]
    have is4 : (lstOf M4 (.ref w)).isSome = true := by show (mol (M4 w)).isSome = true; rw [ew4]; rfl
    dsimp only
    refine if_s (A := decide (way = 0)) (tb_b (tv_eqI (tv_slot rfl) tv_c)) (fun hc => ?_) fun hc => ?_
    · refine drop_ ⟨_, rfl, is4, _, rfl, _, rfl, small (by simp), newTr ⟨p, _, _, rfl, dr4.1, by omega, .inl ⟨_, rfl, by simp, by simp, fun y hy M5 dr5 => ?_⟩⟩⟩
      obtain ⟨x, hx, rfl⟩ : ∃ x ∈ TX, y = .str x := by
        simp at hy
        rcases hy with rfl | rfl | rfl | rfl
        · exact ⟨"a", by decide, rfl⟩
        · exact ⟨"b", by decide, rfl⟩
        · exact ⟨"x", by decide, rfl⟩
        · exact ⟨"", by decide, rfl⟩
      have ew5 : M5 w = some (.lst (f.map .str)) := by rw [dr5.2 w nwp]; exact ew4
      refine ⟨w, _, _, _, rfl, rfl, ew5, by rw [List.length_map]; exact Nat.lt_of_lt_of_le (show f.length < 100000 by omega) (small (Nat.le_refl _)), by omega, by omega, ?_⟩
      refine more (f.take n ++ [x] ++ f.drop n) _ _ _ _ ?_ ?_ ?_ (dr5.1.at (mu_ne nwp.symm)) (by omega) fun b e1 e2 => by rw [mu_ne e2, dr5.2 b e1, same b e1 e2]
      · rw [mu_same, List.map_append, List.map_append, List.map_take, List.map_drop]
        rfl
      · intro y hy
        rcases List.mem_append.mp hy with h | h
        · rcases List.mem_append.mp h with h | h
          · exact hf y (List.mem_of_mem_take h)
          · rw [List.mem_singleton.mp h]; exact hx
        · exact hf y (List.mem_of_mem_drop h)
      · simp only [List.length_append, List.length_take, List.length_drop, List.length_cons, List.length_nil]
        omega
    · have lenW : TV (dCB DL.rLen (dCons (dSlot 2) dNil)) [some (.ref p), some (R a), some (.ref w), some (.int (0 + (k : Nat))), some (.int (n : Nat)), some (.int way)] M4 (.int (f.length : Nat)) := fun Q q => ⟨_, rfl, _, (show mol (M4 w) = _ by rw [ew4]; rfl), by rw [List.length_map]; exact q⟩
      refine if_s (tb_and (tb_b (tv_lt (tv_slot (d := .int (n : Nat)) rfl) lenW)) fun _ => tb_b (tv_eqI (tv_slot (d := .int way) rfl) (tv_c (d := .int 1)))) (fun h1 => ?_) fun h1 => ?_
      · have hlt : n < f.length := by
          rw [Bool.and_eq_true, decide_eq_true_eq] at h1
          omega
        refine drop_ ⟨_, rfl, is4, _, rfl, ?_⟩
        refine ⟨w, _, _, n, _, rfl, rfl, ew4, ixN_n (by rw [List.length_map]; exact hlt), by omega, by omega, by rw [List.getElem?_map, List.getElem?_eq_getElem hlt]; rfl, ?_⟩
        refine more (f.eraseIdx n) _ _ _ _ ?_ ?_ ?_ (dr4.1.at (mu_ne nwp.symm)) (by omega) fun b e1 e2 => by rw [mu_ne e2, same b e1 e2]
        · rw [mu_same, erase_map]
        · exact fun y hy => hf y (List.mem_of_mem_eraseIdx hy)
        · have := List.length_eraseIdx_le f n
          omega
      · refine if_s (tb_b (tv_lt (tv_slot (d := .int (n : Nat)) rfl) lenW)) (fun h2 => ?_) fun h2 => ?_
        · have hlt : n < f.length := by
            rw [decide_eq_true_eq] at h2
            omega
          refine ⟨_, rfl, small (by simp), newTr ⟨p, _, _, rfl, dr4.1, by omega, .inl ⟨_, rfl, by simp, by simp, fun y hy M5 dr5 => ?_⟩⟩⟩
          obtain ⟨x, hx, rfl⟩ : ∃ x ∈ TX, y = .str x := by
            simp at hy
            rcases hy with rfl | rfl | rfl | rfl
            · exact ⟨"a", by decide, rfl⟩
            · exact ⟨"b", by decide, rfl⟩
            · exact ⟨"x", by decide, rfl⟩
            · exact ⟨"y", by decide, rfl⟩
          have ew5 : M5 w = some (.lst (f.map .str)) := by rw [dr5.2 w nwp]; exact ew4
          refine ⟨_, rfl, _, rfl, w, _, _, n, rfl, rfl, ew5, ixN_n (by rw [List.length_map]; exact hlt), ?_⟩
          refine more (f.set n x) _ _ _ _ ?_ ?_ ?_ (dr5.1.at (mu_ne nwp.symm)) (by omega) fun b e1 e2 => by rw [mu_ne e2, dr5.2 b e1, same b e1 e2]
          · rw [mu_same, List.map_set]
          · intro y hy
            rcases mem_set hy with h | rfl
            · exact hf y h
            · exact hx
          · rw [List.length_set]; omega
        · exact more f _ _ _ _ ew4 hf (by omega) dr4.1 (by omega) same
  · rintro ρ M2 ⟨f, x3, x4, x5, rfl, ew, hf, lf, pt, oth⟩
    refine ⟨_, rfl, ?_⟩
    refine tupd_of (d := .ref w) (show mol (M2 w) = _ by rw [ew]; rfl) (q f M2 (md M2 w) hf (by omega) (fun b m e => ?_) ⟨?_, fun b hb => ?_⟩)
    · unfold DL.md at e
      split at e
      · cases e
      · exact e
    · refine (pt.at (M' := md M2 w) ?_).up (by omega)
      unfold DL.md; rw [if_neg nwp.symm]
    · unfold DL.md
      split
      · rename_i e; rw [e]; exact hw.symm
      · rename_i e; exact oth b hb e
end K90

set_option maxHeartbeats 4000000
/-! K90r: the plain laws: changes make the other row; merges. -/
namespace K90
open PySem PySem.Spec DL KB
open L2 (atI ixN)
open PyProof.Rows hiding St signs
variable {a b : Row}
theorem cutN_split {α : Type} (x : List α) {h m n : Nat} (h1 : h ≤ m) (h2 : m ≤ n) : cutN x h n = cutN x h m ++ cutN x m n := by
  unfold cutN
  rw [show n - h = (m - h) + (n - m) by omega, List.take_add, List.drop_drop, show h + (m - h) = m by omega]
theorem cutN_zero {α : Type} (x : List α) (n : Nat) : cutN x 0 n = x.take n := by unfold cutN; simp
theorem take_cut {α : Type} (x : List α) {m n : Nat} (h : m ≤ n) : x.take m ++ cutN x m n = x.take n := by
  rw [← cutN_zero, ← cutN_zero, ← cutN_split x (Nat.zero_le _) h]
theorem cutN_same {α : Type} (x : List α) (n : Nat) : cutN x n n = [] := by unfold cutN; simp
theorem cutN_one {α : Type} (x : List α) (i : Nat) : cutN x i (i + 1) = (x[i]?).toList := by
  unfold cutN
  rw [show i + 1 - i = 1 by omega]
  by_cases h : i < x.length
  · rw [List.drop_eq_getElem_cons h, List.getElem?_eq_getElem h]
    rfl
  · rw [List.drop_of_length_le (by omega), List.getElem?_eq_none (by omega)]
    rfl
theorem cutN_length {α : Type} (x : List α) {i j : Nat} (h : j ≤ x.length) : (cutN x i j).length = j - i := by
  unfold cutN
  rw [List.length_take, List.length_drop]
  omega
/-! ### changes, told back -/
def foldB (a : Row) (f : List Blk) : Option (Row × Nat) := (f.map blkD).foldl (stepL a) (some ([], 0))
theorem foldB_snoc (a : Row) (f : List Blk) (k : Blk) : foldB a (f ++ [k]) = stepL a (foldB a f) (blkD k) := by
  unfold foldB
  rw [List.map_append, List.foldl_append]
  rfl
def smB (n : Nat) : Blk → Prop
  | .keep m => 0 < m ∧ m ≤ 100
  | .turn x y => dR x ∧ dR y ∧ x.length ≤ n ∧ y.length ≤ n
theorem smB.ok {n : Nat} {k : Blk} (h : smB n k) (hn : n ≤ 40) : okBlk k := by
  cases k with
  | keep m => exact h.1
  | turn x y => exact ⟨h.1.ok (by have := h.2.2.1; omega), h.2.1.ok (by have := h.2.2.2; omega)⟩
theorem step_keep {a f : Row} {h n : Nat} (h0 : 0 < n) (hn : h + n ≤ a.length) : stepL a (some (f, h)) (blkD (.keep n)) = some (f ++ cutN a h (h + n), h + n) := by
  unfold stepL
  rw [get_blk (k := .keep n) h0]
  dsimp only
  rw [if_pos hn]
theorem step_turn {a f u v : Row} {h : Nat} (hu : okRow u) (hv : okRow v) (e : cutN a h (h + u.length) = u) : stepL a (some (f, h)) (blkD (.turn u v)) = some (f ++ v, h + u.length) := by
  unfold stepL
  rw [get_blk (k := .turn u v) ⟨hu, hv⟩]
  dsimp only
  rw [if_pos e]
structure BInv (a b : Row) (f : List Blk) (i j k : Nat) : Prop where
  ki : k ≤ i
  kj : k ≤ j
  il : i ≤ a.length
  jl : j ≤ b.length
  st : foldB a f = some (b.take (j - k), i - k)
  eq : cutN a (i - k) i = cutN b (j - k) j
  ok : ∀ x ∈ f, smB 6 x
def flush (f : List Blk) (k : Nat) : List Blk := if 0 < k then f ++ [.keep k] else f
theorem BInv.flush {f : List Blk} {i j k : Nat} (h : BInv a b f i j k) (la : a.length ≤ 6) : foldB a (K90.flush f k) = some (b.take j, i) ∧ ∀ x ∈ K90.flush f k, smB 6 x := by
  have := h.ki; have := h.kj; have := h.il
  unfold K90.flush
  by_cases c : 0 < k
  · rw [if_pos c]
    refine ⟨?_, fun x hx => ?_⟩
    · rw [foldB_snoc, h.st, step_keep c (by omega), show i - k + k = i by omega, h.eq, take_cut b (by omega)]
    · rcases List.mem_append.mp hx with z | z
      · exact h.ok x z
      · rw [List.mem_singleton.mp z]
        exact ⟨c, by omega⟩
  · obtain rfl : k = 0 := by omega
    rw [if_neg c]
    exact ⟨by rw [h.st]; rfl, h.ok⟩
theorem turn_on (da : dR a) (db : dR b) (la : a.length ≤ 6) (lb : b.length ≤ 6) {f : List Blk} {i j u v : Nat} (st : foldB a f = some (b.take j, i)) (ok : ∀ x ∈ f, smB 6 x) (iu : i ≤ u) (ul : u ≤ a.length) (jv : j ≤ v) (vl : v ≤ b.length) :
    foldB a (f ++ [.turn (cutN a i u) (cutN b j v)]) = some (b.take v, u) ∧ ∀ x ∈ f ++ [.turn (cutN a i u) (cutN b j v)], smB 6 x := by
  have l1 := cutN_len a i u
  have l2 := cutN_len b j v
  refine ⟨?_, fun x hx => ?_⟩
  · rw [foldB_snoc, st, step_turn ((da.cut i u).ok (by omega)) ((db.cut j v).ok (by omega)) (by rw [cutN_length a ul, show i + (u - i) = u by omega]), take_cut b jv, cutN_length a ul, show i + (u - i) = u by omega]
  · rcases List.mem_append.mp hx with z | z
    · exact ok x z
    · rw [List.mem_singleton.mp z]
      exact ⟨da.cut i u, db.cut j v, by omega, by omega⟩
theorem bstep_inv (da : dR a) (db : dR b) (la : a.length ≤ 6) (lb : b.length ≤ 6) {f : List Blk} {i j k u v : Nat} (h : BInv a b f i j k) (iu : i ≤ u) (jv : j ≤ v) (ul : u < a.length) (vl : v < b.length) (e : a[u]? = b[v]?) :
    ∃ f' k', bstep a b (f, i, j, k) (u, v) = (f', u + 1, v + 1, k') ∧ BInv a b f' (u + 1) (v + 1) k' := by
  have e1 : cutN a u (u + 1) = cutN b v (v + 1) := by rw [cutN_one, cutN_one, e]
  have := h.ki; have := h.kj
  unfold bstep
  by_cases c : i < u ∨ j < v
  · rw [if_pos c]
    obtain ⟨h1, h2⟩ := h.flush la
    obtain ⟨h3, h4⟩ := turn_on da db la lb h1 h2 iu (by omega) jv (by omega)
    exact ⟨_, 1, rfl, by omega, by omega, by omega, by omega, h3, e1, h4⟩
  · rw [if_neg c]
    obtain rfl : i = u := by omega
    obtain rfl : j = v := by omega
    refine ⟨_, k + 1, rfl, by omega, by omega, by omega, by omega, ?_, ?_, h.ok⟩
    · rw [h.st, show j + 1 - (k + 1) = j - k by omega, show i + 1 - (k + 1) = i - k by omega]
    · rw [show j + 1 - (k + 1) = j - k by omega, show i + 1 - (k + 1) = i - k by omega, cutN_split a (show i - k ≤ i by omega) (by omega : i ≤ i + 1), cutN_split b (show j - k ≤ j by omega) (by omega : j ≤ j + 1), h.eq, e1]
theorem brun_inv (da : dR a) (db : dR b) (la : a.length ≤ 6) (lb : b.length ≤ 6) : ∀ (c : Ch) (f : List Blk) (i j k : Nat), BInv a b f i j k → isCh a b i j c → ∃ f' i' j' k', c.foldl (bstep a b) (f, i, j, k) = (f', i', j', k') ∧ BInv a b f' i' j' k'
  | [], f, i, j, k, h, _ => ⟨f, i, j, k, rfl, h⟩
  | x :: c, f, i, j, k, h, ⟨h1, h2, h3, h4, h5, h6⟩ => by
    obtain ⟨f', k', e, h'⟩ := bstep_inv da db la lb h h1 h2 h3 h4 h5
    rw [List.foldl_cons]
    show ∃ f' i' j' k', c.foldl (bstep a b) (bstep a b (f, i, j, k) (x.1, x.2)) = _ ∧ _
    rw [e]
    exact brun_inv da db la lb c f' _ _ _ h' h6
theorem blocks_fact (da : dR a) (db : dR b) (la : a.length ≤ 6) (lb : b.length ≤ 6) : foldB a (blocks a b) = some (b, a.length) ∧ (∀ x ∈ blocks a b, smB 6 x) ∧ (blocks a b).length ≤ 15 := by
  have h0 : BInv a b [] 0 0 0 := ⟨Nat.le_refl _, Nat.le_refl _, Nat.zero_le _, Nat.zero_le _, rfl, by rw [cutN_same, cutN_same], fun _ h => nomatch h⟩
  obtain ⟨f, i, j, k, e, h⟩ := brun_inv da db la lb (grA a b) [] 0 0 0 h0 (gr_ch rfl).1
  have eb : brun a b (grA a b) = bstep a b (f, i, j, k) (a.length, b.length) := by
    unfold brun
    rw [List.foldl_append, e]
    rfl
  have il := h.il; have jl := h.jl
  have := h.ki; have := h.kj
  have len : (blocks a b).length ≤ 15 := by
    have h1 := bst_len a b (grA a b ++ [(a.length, b.length)]) ([], 0, 0, 0)
    have h2 : (brun a b (grA a b)).1.length ≤ 14 := by
      unfold brun
      have := gr_len a b
      simp only [List.length_append, List.length_cons, List.length_nil] at h1
      omega
    unfold blocks
    split
    · rw [List.length_append, List.length_cons, List.length_nil]; omega
    · omega
  refine ⟨?_, ?_, len⟩
  all_goals
    unfold blocks
    rw [eb]
    unfold bstep
    by_cases c : i < a.length ∨ j < b.length
    · rw [if_pos c]
      dsimp only
      rw [if_neg (by omega)]
      obtain ⟨h1, h2⟩ := h.flush la
      obtain ⟨h3, h4⟩ := turn_on da db la lb h1 h2 il (Nat.le_refl _) jl (Nat.le_refl _)
      first | exact h4 | (rw [List.take_length] at h3; exact h3)
    · rw [if_neg c]
      dsimp only
      obtain rfl : i = a.length := by omega
      obtain rfl : j = b.length := by omega
      obtain ⟨h1, h2⟩ := h.flush la
      unfold K90.flush at h1 h2
      rw [List.take_length] at h1
      by_cases c2 : 0 < k
      · rw [if_pos (by omega), Nat.add_sub_cancel]
        rw [if_pos c2] at h1 h2
        first | exact h1 | exact h2
      · rw [if_neg (by omega)]
        rw [if_neg c2] at h1 h2
        first | exact h1 | exact h2
theorem told_blocks (da : dR a) (db : dR b) (la : a.length ≤ 6) (lb : b.length ≤ 6) : told a (.tup ((blocks a b).map blkD)) = some b := by
  obtain ⟨h1, _, h3⟩ := blocks_fact da db la lb
  rw [told_tup (by rw [List.length_map]; omega)]
  unfold foldB at h1
  rw [h1]
  dsimp only
  rw [if_pos rfl]
/-! ### merges -/
theorem taken_sym (x y z : Row) : taken x z y = taken x y z := by
  unfold taken
  by_cases h1 : y = x
  · subst h1
    by_cases h2 : z = y
    · subst h2; simp
    · have h3 : ¬ y = z := fun e => h2 e.symm
      simp [h2]
  · by_cases h2 : z = x
    · subst h2; simp [h1]
    · by_cases h3 : z = y
      · subst h3; rfl
      · have h4 : ¬ y = z := fun e => h3 e.symm
        simp [h1, h2, h3, h4]
def sw (p : Pl) : Pl := (p.1, p.2.2, p.2.1)
def swC (c : Cl) : Cl := (c.1, c.2.1, c.2.2.2, c.2.2.1)
def swS (s : MSt) : MSt := (s.1, s.2.1.map swC, sw s.2.2)
theorem stab_sym (x y z : Row) : stab x z y = (stab x y z).map sw := by
  unfold stab
  rw [List.map_append, List.map_map]
  have e : both (grA x z) (grA x y) = both (grA x y) (grA x z) := by
    funext p
    unfold both
    rw [Bool.and_comm]
  rw [e]
  rfl
theorem mstep_sym (x y z : Row) (s : MSt) (p : Pl) : mstep x z y (swS s) (sw p) = swS (mstep x y z s p) := by
  obtain ⟨f, cl, h1, h2, h3⟩ := s
  obtain ⟨p1, p2, p3⟩ := p
  unfold mstep swS sw
  dsimp only
  rw [taken_sym]
  cases taken (cutN x h1 p1) (cutN y h2 p2) (cutN z h3 p3) with
  | none =>
    dsimp only
    rw [List.map_append]
    rfl
  | some w => rfl
theorem mrun_sym (x y z : Row) : mrun x z y = swS (mrun x y z) := by
  unfold mrun
  rw [stab_sym]
  have go : ∀ (ps : List Pl) (s : MSt), (ps.map sw).foldl (mstep x z y) (swS s) = swS (ps.foldl (mstep x y z) s) := by
    intro ps
    induction ps with
    | nil => intro s; rfl
    | cons p ps ih =>
      intro s
      rw [List.map_cons, List.foldl_cons, List.foldl_cons, mstep_sym, ih]
  exact go (stab x y z) ([], [], 0, 0, 0)
/-- places along which the third row is taken -/
def OkP (x y z : Row) : Pl → List Pl → Prop
  | _, [] => True
  | h, p :: ps => taken (cutN x h.1 p.1) (cutN y h.2.1 p.2.1) (cutN z h.2.2 p.2.2) = some (cutN z h.2.2 p.2.2) ∧ h.2.2 ≤ p.2.2 ∧ cutN x p.1 (p.1 + 1) = cutN z p.2.2 (p.2.2 + 1) ∧ OkP x y z (suc p) ps
theorem run_ok (x y z : Row) (e : Pl) : ∀ (ps : List Pl) (h : Pl), OkP x y z h (ps ++ [e]) → (ps ++ [e]).foldl (mstep x y z) (z.take h.2.2, [], h) = (z.take (e.2.2 + 1), [], suc e)
  | [], h, ⟨h1, h2, h3, _⟩ => by
    show mstep x y z (z.take h.2.2, [], h) e = _
    unfold mstep
    dsimp only
    rw [h1]
    dsimp only
    rw [h3, take_cut z h2, take_cut z (by omega)]
    rfl
  | p :: ps, h, ⟨h1, h2, h3, h4⟩ => by
    have s : mstep x y z (z.take h.2.2, [], h) p = (z.take (suc p).2.2, [], suc p) := by
      unfold mstep
      dsimp only
      rw [h1]
      dsimp only
      rw [h3, take_cut z h2, take_cut z (by omega)]
      rfl
    rw [List.cons_append, List.foldl_cons, s]
    exact run_ok x y z e ps (suc p) h4
theorem look_of {c : Ch} (nd : (c.map (·.1)).Pairwise (· < ·)) {u v : Nat} (h : (u, v) ∈ c) : look c u = some v := by
  cases e : look c u with
  | none =>
    have := (look_iff c u).mpr (List.mem_map.mpr ⟨_, h, rfl⟩)
    rw [e] at this; cases this
  | some w =>
    have hw := look_mem e
    have go : ∀ (c : Ch), (c.map (·.1)).Pairwise (· < ·) → ∀ u v w, (u, v) ∈ c → (u, w) ∈ c → v = w := by
      intro c
      induction c with
      | nil => intro _ u v w h; cases h
      | cons x c ih =>
        intro nd u v w h1 h2
        rw [List.map_cons] at nd
        obtain ⟨n1, n2⟩ := List.pairwise_cons.mp nd
        rcases List.mem_cons.mp h1 with r1 | r1 <;> rcases List.mem_cons.mp h2 with r2 | r2
        · have r3 := r1.trans r2.symm
          injection r3 with _ r3
        · have := n1 u (List.mem_map.mpr ⟨_, r2, rfl⟩)
          rw [← r1] at this
          dsimp only at this
          omega
        · have := n1 u (List.mem_map.mpr ⟨_, r1, rfl⟩)
          rw [← r2] at this
          dsimp only at this
          omega
        · exact ih n2 u v w r1 r2
    rw [go c nd u v w h hw]
/-- the places, where the first holds all that the second holds -/
theorem stab_sub {x y z : Row} (g : Nat → Nat) (h : ∀ p ∈ grA x z, look (grA x y) p.1 = some (g p.1)) : stab x y z = (grA x z).map (fun p => (p.1, g p.1, p.2)) ++ [(x.length, y.length, z.length)] := by
  obtain ⟨c1, c2⟩ := gr_fact x z
  have e : (List.range x.length).filter (both (grA x y) (grA x z)) = (grA x z).map (·.1) := by
    refine nat_sorted (List.Pairwise.filter _ List.pairwise_lt_range) c1 fun p => ?_
    rw [List.mem_filter, List.mem_range]
    unfold both
    rw [Bool.and_eq_true, look_iff (grA x z)]
    constructor
    · rintro ⟨_, _, h2⟩; exact h2
    · intro h2
      obtain ⟨w, hw, rfl⟩ := List.mem_map.mp h2
      exact ⟨(c2 w hw).1, by rw [h w hw]; rfl, h2⟩
  unfold stab
  rw [e, List.map_map]
  congr 1
  refine List.map_congr_left fun p hp => ?_
  show plAt _ _ p.1 = _
  unfold plAt
  rw [h p hp, look_of c1 (u := p.1) (v := p.2) hp]
  rfl
theorem cut_end {α : Type} (x : List α) : cutN x x.length (x.length + 1) = [] := by rw [cutN_one, List.getElem?_eq_none (Nat.le_refl _)]; rfl
/-- merged(base, one, one) -/
theorem mrun_same (x z : Row) : (mrun x z z).1 = z ∧ (mrun x z z).2.1 = [] := by
  obtain ⟨c1, c2⟩ := gr_fact x z
  have es : stab x z z = (grA x z).map (fun p => (p.1, p.2, p.2)) ++ [(x.length, z.length, z.length)] := by
    rw [stab_sub (fun p => (look (grA x z) p).getD 0) fun p hp => by rw [look_of c1 (u := p.1) (v := p.2) hp]; rfl]
    congr 1
    refine List.map_congr_left fun p hp => ?_
    rw [look_of c1 (u := p.1) (v := p.2) hp]
    rfl
  have tk : ∀ u v : Row, taken u v v = some v := fun u v => by
    unfold taken
    by_cases h : v = u
    · rw [if_pos h]
    · rw [if_neg h, if_pos (.inr rfl)]
  have ok : ∀ (c : Ch) (i j : Nat), isCh x z i j c → j ≤ z.length → OkP x z z (i, j, j) (c.map (fun p => (p.1, p.2, p.2)) ++ [(x.length, z.length, z.length)]) := by
    intro c
    induction c with
    | nil => intro i j _ hj; exact ⟨tk _ _, hj, by dsimp only; rw [cut_end, cut_end], trivial⟩
    | cons p c ih =>
      rintro i j ⟨h1, h2, h3, h4, h5, h6⟩ hj
      exact ⟨tk _ _, h2, by dsimp only; rw [cutN_one, cutN_one, h5], ih _ _ h6 h4⟩
  have e : mrun x z z = (z.take (z.length + 1), [], suc (x.length, z.length, z.length)) := by
    unfold mrun
    rw [es]
    have := run_ok x z z (x.length, z.length, z.length) ((grA x z).map fun p => (p.1, p.2, p.2)) (0, 0, 0)
    rw [List.take_zero] at this
    exact this (ok _ 0 0 (gr_ch rfl).1 (Nat.zero_le _))
  rw [e]
  exact ⟨List.take_of_length_le (by omega), rfl⟩
theorem sorted_sub : ∀ {l m : List Nat}, l.Pairwise (· < ·) → m.Pairwise (· < ·) → (∀ x ∈ l, x ∈ m) → l.length ≤ m.length ∧ (l.length = m.length → l = m)
  | [], m, _, _, _ => ⟨Nat.zero_le _, fun h => (List.length_eq_zero_iff.mp h.symm).symm⟩
  | x :: l, [], _, _, h => by have := h x List.mem_cons_self; cases this
  | x :: l, y :: m, h1, h2, h => by
    obtain ⟨a1, a2⟩ := List.pairwise_cons.mp h1
    obtain ⟨b1, b2⟩ := List.pairwise_cons.mp h2
    by_cases e : x = y
    · subst e
      obtain ⟨k1, k2⟩ := sorted_sub a2 b2 fun z hz => by
        rcases List.mem_cons.mp (h z (List.mem_cons_of_mem _ hz)) with rfl | r
        · have := a1 z hz; omega
        · exact r
      exact ⟨by simp; omega, fun hl => by rw [k2 (by simpa using hl)]⟩
    · have hx : x ∈ m := by
        rcases List.mem_cons.mp (h x List.mem_cons_self) with r | r
        · exact absurd r e
        · exact r
      have hxy := b1 x hx
      obtain ⟨k1, k2⟩ := sorted_sub (l := x :: l) (m := m) h1 b2 fun z hz => by
        rcases List.mem_cons.mp (h z hz) with rfl | r
        · rcases List.mem_cons.mp hz with rfl | s
          · omega
          · have := a1 z s; omega
        · exact r
      exact ⟨by simp at k1 ⊢; omega, fun hl => by simp at k1 hl; omega⟩
theorem ch_snd : ∀ {c : Ch} {i j : Nat}, isCh a b i j c → (c.map (·.2)).Pairwise (· < ·)
  | [], _, _, _ => List.Pairwise.nil
  | x :: r, i, j, ⟨h1, h2, h3, h4, h5, h6⟩ => by
    refine List.pairwise_cons.mpr ⟨fun y hy => ?_, ch_snd h6⟩
    obtain ⟨z, hz, rfl⟩ := List.mem_map.mp hy
    have := ((ch_fact h6).2 z hz).2.1
    show x.2 < z.2
    omega
/-- a chain along the same places -/
theorem diag_ch (P : Nat → Bool) : ∀ (n i : Nat), i + n ≤ a.length → i + n ≤ b.length → (∀ p, i ≤ p → p < i + n → P p = true → a[p]? = b[p]?) → isCh a b i i (((List.range' i n).filter P).map fun p => (p, p))
  | 0, i, _, _, _ => trivial
  | n + 1, i, h1, h2, h => by
    rw [List.range'_succ, List.filter_cons]
    have ih := diag_ch P n (i + 1) (by omega) (by omega) fun p k1 k2 => h p (by omega) (by omega)
    split
    · rename_i hp
      exact ⟨Nat.le_refl _, Nat.le_refl _, by show i < _; omega, by show i < _; omega, h i (Nat.le_refl _) (by omega) hp, ih⟩
    · have mono : ∀ (c : Ch) (i j : Nat), isCh a b (i + 1) (j + 1) c → isCh a b i j c := by
        intro c i j h
        cases c with
        | nil => trivial
        | cons x r => exact ⟨by have := h.1; omega, by have := h.2.1; omega, h.2.2⟩
      exact mono _ _ _ ih
theorem gr_diag {n : Nat} (P : Nat → Bool) (l1 : a.length = n) (l2 : b.length = n) (hp : ∀ p, p < n → P p = true → a[p]? = b[p]?) (only : ∀ p q, p < n → q < n → a[p]? = b[q]? → p = q ∧ P p = true) : grA a b = ((List.range n).filter P).map fun p => (p, p) := by
  have hd := diag_ch (a := a) (b := b) P n 0 (by omega) (by omega) fun p _ h2 => hp p (by omega)
  rw [← List.range_eq_range'] at hd
  obtain ⟨c1, c2⟩ := gr_ch (a := a) (b := b) (i := 0) (j := 0) rfl
  have len : ((List.range n).filter P).length ≤ (grA a b).length := by
    have := ch_le hd
    rw [List.length_map] at this
    unfold grA
    rw [c2]
    exact this
  have pt : ∀ {c : Ch} {i j : Nat}, isCh a b i j c → ∀ x ∈ c, x.1 < n ∧ x.2 < n ∧ a[x.1]? = b[x.2]? := by
    intro c
    induction c with
    | nil => intro i j _ x h; cases h
    | cons y r ih =>
      rintro i j ⟨h1, h2, h3, h4, h5, h6⟩ x hx
      rcases List.mem_cons.mp hx with rfl | hx
      · exact ⟨by omega, by omega, h5⟩
      · exact ih h6 x hx
  have mem : ∀ x ∈ grA a b, x.1 = x.2 ∧ x.1 ∈ (List.range n).filter P := fun x hx => by
    obtain ⟨h1, h2, h3⟩ := pt c1 x hx
    obtain ⟨h4, h5⟩ := only _ _ h1 h2 h3
    exact ⟨h4, List.mem_filter.mpr ⟨List.mem_range.mpr h1, h5⟩⟩
  have k := sorted_sub (l := (grA a b).map (·.1)) (m := (List.range n).filter P) (gr_fact a b).1 (List.Pairwise.filter _ List.pairwise_lt_range) fun x hx => by
    obtain ⟨y, hy, rfl⟩ := List.mem_map.mp hx
    exact (mem y hy).2
  have e := k.2 (by have := k.1; rw [List.length_map] at this ⊢; omega)
  rw [← e, List.map_map]
  conv => lhs; rw [← List.map_id (grA a b)]
  refine List.map_congr_left fun x hx => ?_
  have := (mem x hx).1
  show x = (x.1, x.1)
  exact Prod.ext rfl this.symm
/-- a row with itself -/
theorem look_self (x : Row) {p : Nat} (hp : p < x.length) : look (grA x x) p = some p := by
  have hd := diag_ch (a := x) (b := x) (fun _ => true) x.length 0 (by omega) (by omega) fun p _ _ _ => rfl
  obtain ⟨c1, c2⟩ := gr_ch (a := x) (b := x) (i := 0) (j := 0) rfl
  have len : x.length ≤ (grA x x).length := by
    have := ch_le hd
    rw [List.length_map, List.filter_eq_self.mpr (fun _ _ => rfl), List.length_range'] at this
    unfold grA
    rw [c2]
    exact this
  obtain ⟨g1, g2⟩ := gr_fact x x
  have k1 := sorted_sub (l := (grA x x).map (·.1)) (m := List.range x.length) g1 List.pairwise_lt_range fun z hz => by
    obtain ⟨y, hy, rfl⟩ := List.mem_map.mp hz
    exact List.mem_range.mpr (g2 y hy).1
  have k2 := sorted_sub (l := (grA x x).map (·.2)) (m := List.range x.length) (ch_snd c1) List.pairwise_lt_range fun z hz => by
    obtain ⟨y, hy, rfl⟩ := List.mem_map.mp hz
    exact List.mem_range.mpr (g2 y hy).2
  have e1 := k1.2 (by have := k1.1; rw [List.length_map, List.length_range] at this ⊢; omega)
  have e2 := k2.2 (by have := k2.1; rw [List.length_map, List.length_range] at this ⊢; omega)
  have hm : p ∈ (grA x x).map (·.1) := by rw [e1]; exact List.mem_range.mpr hp
  obtain ⟨w, hw, rfl⟩ := List.mem_map.mp hm
  have ew : w.1 = w.2 := List.map_inj_left.mp (e1.trans e2.symm) w hw
  rw [look_of g1 (u := w.1) (v := w.2) hw, ew]
/-- merged(base, base, other) -/
theorem mrun_base (x z : Row) : (mrun x x z).1 = z ∧ (mrun x x z).2.1 = [] := by
  obtain ⟨c1, c2⟩ := gr_fact x z
  have es := stab_sub (x := x) (y := x) (z := z) id fun p hp => look_self x (c2 p hp).1
  have tk : ∀ u v : Row, taken u u v = some v := fun u v => by unfold taken; rw [if_pos rfl]
  have ok : ∀ (c : Ch) (i j : Nat), isCh x z i j c → j ≤ z.length → OkP x x z (i, i, j) (c.map (fun p => (p.1, id p.1, p.2)) ++ [(x.length, x.length, z.length)]) := by
    intro c
    induction c with
    | nil => intro i j _ hj; exact ⟨tk _ _, hj, by dsimp only; rw [cut_end, cut_end], trivial⟩
    | cons p c ih =>
      rintro i j ⟨h1, h2, h3, h4, h5, h6⟩ hj
      exact ⟨tk _ _, h2, by dsimp only; rw [cutN_one, cutN_one, h5], ih _ _ h6 h4⟩
  have e : mrun x x z = (z.take (z.length + 1), [], suc (x.length, x.length, z.length)) := by
    unfold mrun
    rw [es]
    have := run_ok x x z (x.length, x.length, z.length) ((grA x z).map fun p => (p.1, id p.1, p.2)) (0, 0, 0)
    rw [List.take_zero] at this
    exact this (ok _ 0 0 (gr_ch rfl).1 (Nat.zero_le _))
  rw [e]
  exact ⟨List.take_of_length_le (by omega), rfl⟩
/-- merged(base, other, base) -/
theorem mrun_back (x z : Row) : (mrun x z x).1 = z ∧ (mrun x z x).2.1 = [] := by
  rw [mrun_sym]
  obtain ⟨h1, h2⟩ := mrun_base x z
  unfold swS
  dsimp only
  rw [h1, h2]
  exact ⟨rfl, rfl⟩
end K90

set_option maxHeartbeats 4000000
/-! K90s: sizes of what is shown; values compared with themselves. -/
namespace K90
open PySem PySem.Spec DL KB
open L2 (atI ixN)
open PyProof.Rows hiding St signs
variable {a b : Row}
theorem repr_py {v : DL.D} (g : gd v = true) (d : dep v ≤ 60) (wv : wt v ≤ 8000) : ∃ p, v.py = some p ∧ p.showable = true ∧ p.depth ≤ 62 ∧ p.shown.length ≤ sizeLine := by
  obtain ⟨p, e, h1, h2, h3⟩ := py_gd v g
  obtain ⟨b, l⟩ := bulk_gd v p g e
  refine ⟨p, e, h1, by omega, ?_⟩
  have := PyData.shown_le_bulk 1921 (by decide) p l
  rw [b] at this
  have m : (1921 + 2) * wt v ≤ (1921 + 2) * 8000 := Nat.mul_le_mul_left _ wv
  rw [sizeLine_eq]
  omega
theorem tv_repr {v : DL.D} {p : PyData} (hs : v.py = some p ∧ p.showable = true ∧ p.depth ≤ 62 ∧ p.shown.length ≤ sizeLine) (nr : ∀ M : Mp, pyM M v = v.py) {t : DTE} {ρ : Rho} {M : Mp} (h : TV t ρ M v) : TV (dCB rReprD (dCons t dNil)) ρ M (.str p.shown) := fun Q q => h _ ⟨v, p, rfl, by rw [nr]; exact hs.1, hs.2.1, hs.2.2.1, hs.2.2.2, q⟩
theorem nr_gd {v : DL.D} (g : gd v = true) (M : Mp) : pyM M v = v.py := by
  cases v <;> first | rfl | (simp [gd] at g)
/-- two that read alike are shown alike -/
theorem tb_reprNe {v w : DL.D} (g : gd v = true) (d : dep v ≤ 60) (wv : wt v ≤ 8000) (e : w.py = v.py) (nr : ∀ M : Mp, pyM M w = w.py) {t u : DTE} {ρ : Rho} {M : Mp} (h : TV t ρ M v) (k : TV u ρ M w) : TB (dB (dOp (rEqD2 true) (dCB rReprD (dCons t dNil)) (dCB rReprD (dCons u dNil)))) ρ M false := by
  obtain ⟨p, hp⟩ := repr_py g d wv
  have := tb_b (tv_neS (tv_repr hp (nr_gd g) h) (tv_repr (v := w) (p := p) ⟨e.trans hp.1, hp.2⟩ nr k))
  rw [decide_eq_true rfl] at this
  exact this
theorem tb_reprEq {v : DL.D} (g : gd v = true) (d : dep v ≤ 60) (wv : wt v ≤ 8000) {t u : DTE} {ρ : Rho} {M : Mp} (h : TV t ρ M v) (k : TV u ρ M v) : TB (dB (dOp (rEqD2 false) (dCB rReprD (dCons t dNil)) (dCB rReprD (dCons u dNil)))) ρ M true := by
  obtain ⟨p, hp⟩ := repr_py g d wv
  have := tb_b (tv_eqS (tv_repr hp (nr_gd g) h) (tv_repr hp (nr_gd g) k))
  rw [decide_eq_true rfl] at this
  exact this
theorem eq_same {v : DL.D} (tl : (∃ xs, v = .tup xs) ∨ ∃ xs, v = .lst xs) (g : gd v = true) (d : dep v ≤ 60) {neg : Bool} {t u : DTE} {ρ : Rho} {M : Mp} (h : TV t ρ M v) (k : TV u ρ M v) : TV (dOp (rEqD2 neg) t u) ρ M (.bl (!neg)) := fun Q q => h _ (k _ (by
  obtain ⟨p, e, h1, h2, h3⟩ := py_gd v g
  have sh : SeqAt.shaped p = true := by
    unfold SeqAt.shaped
    rw [h2, Bool.true_and, decide_eq_true_eq]
    omega
  have rf := SeqAt.eqv_refl p h2
  have en : ∀ Q : DK, Q (.bl (if neg then !PyData.eqv p p else PyData.eqv p p)) M → Q (.bl (!neg)) M := fun Q q => by
    rw [rf] at q
    cases neg <;> exact q
  have em : ∀ Q : DK, Q (.bl (!neg)) M → Q (.bl (if neg then !PyData.eqv p p else PyData.eqv p p)) M := fun Q q => by
    rw [rf]
    cases neg <;> exact q
  rcases tl with ⟨xs, rfl⟩ | ⟨xs, rfl⟩
  · exact ⟨p, p, e, e, sh, sh, em Q q⟩
  · exact ⟨p, p, e, e, sh, sh, em Q q⟩))
/-! ### sizes -/
theorem dR_wt : ∀ {x : Row}, dR x → wtAll (x.map .str) ≤ 3 * x.length
  | [], _ => Nat.le_refl _
  | t :: x, h => by
    have ih := dR_wt (x := x) fun y hy => h y (List.mem_cons_of_mem _ hy)
    have := (tx_all t (h t List.mem_cons_self)).2
    rw [List.map_cons, wtAll, wt, List.length_cons]
    omega
theorem wtR {x : Row} (h : dR x) : wt (R x) ≤ 3 * x.length := by
  rw [wt]; exact dR_wt h
theorem ch_size {g : Ch} (l : g.length ≤ 100) (h : ∀ x ∈ g, x.1 ≤ 100 ∧ x.2 ≤ 100) : gd (.tup (chD g)) = true ∧ dep (.tup (chD g)) ≤ 2 ∧ wt (.tup (chD g)) ≤ 300 := by
  refine ⟨gd_tup.mpr ⟨by unfold chD; simp; omega, fun y hy => ?_⟩, ?_, ?_⟩
  · obtain ⟨x, hx, rfl⟩ := List.mem_map.mp hy
    have := h x hx
    exact pv_gd (by omega) (by omega)
  · rw [dep]; exact Nat.succ_le_succ (ch_dep g)
  · rw [wt]
    have : ∀ g : Ch, wtAll (chD g) = 3 * g.length := fun g => by
      induction g with
      | nil => rfl
      | cons x g ih =>
        show wtAll (pv x :: chD g) = _
        rw [wtAll, ih]
        unfold pv
        rw [wt]
        simp [wtAll, wt]
        omega
    rw [this]; omega
theorem chX_same (g : Ch) : (chX g).py = (DL.D.tup (chD g)).py := by
  have : ∀ g : Ch, pyAll (g.map pvX) = pyAll (chD g) := fun g => by
    induction g with
    | nil => rfl
    | cons x g ih =>
      show pyAll (pvX x :: g.map pvX) = pyAll (pv x :: chD g)
      rw [pyAll, pyAll, ih]
      rfl
  unfold chX
  rw [D.py, D.py, this]
theorem blkX_same (f : List Blk) : (DL.D.tup (f.map blkX)).py = (DL.D.tup (f.map blkD)).py := by
  have : ∀ f : List Blk, pyAll (f.map blkX) = pyAll (f.map blkD) := fun f => by
    induction f with
    | nil => rfl
    | cons x f ih =>
      rw [List.map_cons, List.map_cons, pyAll, pyAll, ih]
      have : (blkX x).py = (blkD x).py := by cases x <;> rfl
      rw [this]
  rw [D.py, D.py, this]
theorem blk_size {k : Blk} (h : smB 6 k) : tree (blkD k) = true ∧ gd (blkD k) = true ∧ dep (blkD k) ≤ 2 ∧ wt (blkD k) ≤ 45 := by
  cases k with
  | keep n =>
    have : n ≤ 100 := h.2
    refine ⟨?_, ?_, ?_, ?_⟩
    · show tree (.tup [.str "keep", .int (n : Nat)]) = true
      rw [tree_tup]
      intro x hx
      simp at hx
      rcases hx with rfl | rfl
      · rfl
      · simp [tree]; omega
    · refine gd_tup.mpr ⟨by simp, fun x hx => ?_⟩
      simp at hx
      rcases hx with rfl | rfl
      · decide +kernel
      · exact int_gd (by omega)
    · simp [blkD, dep, depAll]
    · show wt (.tup [.str "keep", .int (n : Nat)]) ≤ 45
      have h3 : wt (.str "keep") = 4 := by decide +kernel
      have h4 : wt (.int (n : Nat)) = 0 := rfl
      rw [wt, wtAll, wtAll, wtAll, h3, h4]
      omega
  | turn x y =>
    obtain ⟨hx, hy, lx, ly⟩ := h
    have okx := hx.ok (a := x) (by omega)
    have oky := hy.ok (a := y) (by omega)
    refine ⟨?_, ?_, ?_, ?_⟩
    · show tree (.tup [.str "turn", R x, R y]) = true
      have tr : ∀ z : Row, tree (R z) = true := fun z => tree_tup.mpr fun d hd => by
        obtain ⟨t, _, rfl⟩ := List.mem_map.mp hd
        rfl
      rw [tree_tup]
      intro d hd
      simp at hd
      rcases hd with rfl | rfl | rfl
      · rfl
      · exact tr x
      · exact tr y
    · refine gd_tup.mpr ⟨by simp, fun d hd => ?_⟩
      simp at hd
      rcases hd with rfl | rfl | rfl
      · decide +kernel
      · exact row_gd okx
      · exact row_gd oky
    · show dep (.tup [.str "turn", R x, R y]) ≤ 2
      have := row_dep x
      have := row_dep y
      rw [dep]
      refine Nat.succ_le_succ (depAll_le.mpr fun d hd => ?_)
      simp at hd
      rcases hd with rfl | rfl | rfl
      · exact Nat.zero_le _
      · assumption
      · assumption
    · show wt (.tup [.str "turn", R x, R y]) ≤ 45
      have h1 := wtR hx
      have h2 := wtR hy
      have h3 : wt (.str "turn") = 4 := by decide +kernel
      rw [wt, wtAll, wtAll, wtAll, wtAll, h3]
      omega
theorem wtAll_le {n : Nat} : ∀ {xs : List DL.D}, (∀ x ∈ xs, wt x ≤ n) → wtAll xs ≤ (n + 1) * xs.length
  | [], _ => Nat.zero_le _
  | x :: xs, h => by
    have ih := wtAll_le (xs := xs) fun y hy => h y (List.mem_cons_of_mem _ hy)
    have := h x List.mem_cons_self
    rw [wtAll, List.length_cons, Nat.mul_succ]
    omega
theorem blocks_size (da : dR a) (db : dR b) (la : a.length ≤ 6) (lb : b.length ≤ 6) : tree (.tup ((blocks a b).map blkD)) = true ∧ gd (.tup ((blocks a b).map blkD)) = true ∧ dep (.tup ((blocks a b).map blkD)) ≤ 3 ∧ wt (.tup ((blocks a b).map blkD)) ≤ 700 := by
  obtain ⟨_, h2, h3⟩ := blocks_fact da db la lb
  have all : ∀ d ∈ (blocks a b).map blkD, tree d = true ∧ gd d = true ∧ dep d ≤ 2 ∧ wt d ≤ 45 := fun d hd => by
    obtain ⟨k, hk, rfl⟩ := List.mem_map.mp hd
    exact blk_size (h2 k hk)
  refine ⟨tree_tup.mpr fun d hd => (all d hd).1, gd_tup.mpr ⟨by rw [List.length_map]; omega, fun d hd => (all d hd).2.1⟩, ?_, ?_⟩
  · rw [dep]; exact Nat.succ_le_succ (depAll_le.mpr fun d hd => (all d hd).2.2.1)
  · rw [wt]
    have := wtAll_le (n := 45) (xs := (blocks a b).map blkD) fun d hd => (all d hd).2.2.2
    rw [List.length_map] at this
    omega
/-- what changes tell is not great -/
theorem cut_wt (x : Row) (i j : Nat) : wtAll ((cutN x i j).map .str) ≤ wtAll (x.map .str) := by
  have := wtAll_cut (x.map .str) (some (i : Int)) (some (j : Int))
  rw [cut_nat, cutN_map] at this
  exact this
theorem told_wt {v : DL.D} {f : Row} (h : told a v = some f) : wt (R f) ≤ wt v + 81 * wt (R a) := by
  cases v <;> first | (cases h; done) | skip
  rename_i xs
  have h' : (if xs.length ≤ 81 then (match xs.foldl (stepL a) (some ([], 0)) with
    | some s => if s.2 = a.length then some s.1 else none
    | none => none) else none) = some f := h
  split at h'
  · rename_i l
    have go : ∀ (ys : List DL.D) (s s' : Row × Nat), ys.foldl (stepL a) (some s) = some s' → wtAll (s'.1.map .str) ≤ wtAll (s.1.map .str) + wtAll ys + ys.length * wtAll (a.map .str) := by
      intro ys
      induction ys with
      | nil => intro s s' e; cases e; simp [wtAll]
      | cons y ys ih =>
        intro s s' e
        rw [List.foldl_cons] at e
        cases hs : stepL a (some s) y with
        | none => rw [hs, step_none] at e; cases e
        | some s1 =>
          rw [hs] at e
          have h1 := ih s1 s' e
          have h2 : wtAll (s1.1.map .str) ≤ wtAll (s.1.map .str) + wt y + wtAll (a.map .str) := by
            unfold stepL at hs
            dsimp only at hs
            split at hs
            · split at hs
              · cases hs
                dsimp only
                rw [List.map_append, wtAll_append]
                have := cut_wt a s.2 (s.2 + ‹Nat›)
                omega
              · cases hs
            · rename_i u w hg
              obtain ⟨rfl, _⟩ := get_of hg
              split at hs
              · cases hs
                dsimp only
                rw [List.map_append, wtAll_append]
                have : wt (blkD (.turn u w)) = wt (.str "turn") + 1 + (wt (R u) + 1 + (wt (R w) + 1 + 0)) := rfl
                have e2 : wt (R w) = wtAll (w.map .str) := by rw [wt]
                omega
              · cases hs
            · cases hs
          rw [wtAll, List.length_cons, Nat.succ_mul]
          omega
    cases hf : xs.foldl (stepL a) (some ([], 0)) with
    | none => rw [hf] at h'; cases h'
    | some s =>
      rw [hf] at h'
      dsimp only at h'
      split at h'
      · cases h'
        have := go xs _ _ hf
        rw [wt, wt, wt]
        have m : xs.length * wtAll (a.map .str) ≤ 81 * wtAll (a.map .str) := Nat.mul_le_mul_right _ l
        have z : wtAll (([] : Row).map DL.D.str) = 0 := rfl
        dsimp only at this
        omega
      · cases h'
  · cases h'
/-! ### merges are not great -/
structure MSd (n : Nat) (s : MSt) : Prop where
  f : s.1.length ≤ 7 * n
  fd : dR s.1
  c : s.2.1.length ≤ n
  cd : ∀ x ∈ s.2.1, x.1 ≤ 7 ∧ x.2.1 ≤ 7 ∧ dR x.2.2.1 ∧ dR x.2.2.2 ∧ x.2.2.1.length ≤ 6 ∧ x.2.2.2.length ≤ 6
  p : s.2.2.1 ≤ 7
theorem dR.app {x y : Row} (hx : dR x) (hy : dR y) : dR (x ++ y) := fun t ht => by
  rcases List.mem_append.mp ht with h | h
  · exact hx t h
  · exact hy t h
theorem mstep_d {x y z : Row} (hx : dR x) (hy : dR y) (hz : dR z) (lx : x.length ≤ 6) (ly : y.length ≤ 6) (lz : z.length ≤ 6) {n : Nat} {s : MSt} {p : Pl} (h : MSd n s) (hp : p.1 ≤ 6) : MSd (n + 1) (mstep x y z s p) := by
  have l1 := cut1_len x p.1
  have l2 := cutN_len y s.2.2.2.1 p.2.1
  have l3 := cutN_len z s.2.2.2.2 p.2.2
  have hf := h.f
  have hc := h.c
  unfold mstep
  cases e : taken (cutN x s.2.2.1 p.1) (cutN y s.2.2.2.1 p.2.1) (cutN z s.2.2.2.2 p.2.2) with
  | some w =>
    have hw : dR w ∧ w.length ≤ 6 := by
      unfold taken at e
      split at e
      · cases e; exact ⟨hz.cut _ _, by omega⟩
      · split at e
        · cases e; exact ⟨hy.cut _ _, by omega⟩
        · cases e
    have := hw.2
    dsimp only
    refine ⟨?_, (h.fd.app hw.1).app (hx.cut _ _), by dsimp only; omega, h.cd, by dsimp only; omega⟩
    simp only [List.length_append]
    omega
  | none =>
    dsimp only
    refine ⟨?_, h.fd.app (hx.cut _ _), ?_, fun t ht => ?_, by dsimp only; omega⟩
    · simp only [List.length_append]
      omega
    · simp only [List.length_append, List.length_cons, List.length_nil]
      omega
    · rcases List.mem_append.mp ht with ht | ht
      · exact h.cd t ht
      · rw [List.mem_singleton.mp ht]
        exact ⟨h.p, by dsimp only; omega, hy.cut _ _, hz.cut _ _, by dsimp only; omega, by dsimp only; omega⟩
theorem mrun_d {x y z : Row} (hx : dR x) (hy : dR y) (hz : dR z) (lx : x.length ≤ 6) (ly : y.length ≤ 6) (lz : z.length ≤ 6) : MSd 7 (mrun x y z) := by
  obtain ⟨h1, h2⟩ := stab_sm x y z
  have go : ∀ (ps : List Pl) (n : Nat) (s : MSt), (∀ p ∈ ps, p.1 ≤ x.length) → MSd n s → MSd (n + ps.length) (ps.foldl (mstep x y z) s) := by
    intro ps
    induction ps with
    | nil => intro n s _ h; exact h
    | cons p ps ih =>
      intro n s hp h
      rw [List.foldl_cons, List.length_cons, show n + (ps.length + 1) = (n + 1) + ps.length by omega]
      exact ih (n + 1) _ (fun q hq => hp q (List.mem_cons_of_mem _ hq)) (mstep_d hx hy hz lx ly lz h (Nat.le_trans (hp p List.mem_cons_self) lx))
  have := go (stab x y z) 0 ([], [], 0, 0, 0) h2 ⟨by simp, (fun _ h => nomatch h), by simp, (fun _ h => nomatch h), by simp⟩
  have hl : 0 + (stab x y z).length ≤ 7 := by omega
  have e : mrun x y z = (stab x y z).foldl (mstep x y z) ([], [], 0, 0, 0) := rfl
  rw [e]
  exact ⟨Nat.le_trans this.f (by omega), this.fd, Nat.le_trans this.c hl, this.cd, this.p⟩
theorem cls_d {cl : List Cl} (l : cl.length ≤ 7) (h : ∀ x ∈ cl, x.1 ≤ 7 ∧ x.2.1 ≤ 7 ∧ dR x.2.2.1 ∧ dR x.2.2.2 ∧ x.2.2.1.length ≤ 6 ∧ x.2.2.2.length ≤ 6) : gd (.tup (cl.map clD)) = true ∧ dep (.tup (cl.map clD)) ≤ 3 ∧ wt (.tup (cl.map clD)) ≤ 350 := by
  obtain ⟨g, d⟩ := cls_gd (cl := cl) (by omega) fun c hc => by
    obtain ⟨h1, h2, h3, h4, h5, h6⟩ := h c hc
    exact ⟨by omega, by omega, h3.ok (by omega), h4.ok (by omega)⟩
  refine ⟨g, d, ?_⟩
  rw [wt]
  have := wtAll_le (n := 45) (xs := cl.map clD) fun d hd => by
    obtain ⟨c, hc, rfl⟩ := List.mem_map.mp hd
    obtain ⟨h1, h2, h3, h4, h5, h6⟩ := h c hc
    have k1 := wtR h3
    have k2 := wtR h4
    have w0 : ∀ i : Int, wt (.int i) = 0 := fun _ => rfl
    show wtAll [.int (c.1 : Nat), .int (c.2.1 : Nat), R c.2.2.1, R c.2.2.2] ≤ 45
    rw [wtAll, wtAll, wtAll, wtAll, wtAll, w0, w0]
    omega
  rw [List.length_map] at this
  omega
theorem mres_d {x y z : Row} (hx : dR x) (hy : dR y) (hz : dR z) (lx : x.length ≤ 6) (ly : y.length ≤ 6) (lz : z.length ≤ 6) : gd (mres x y z) = true ∧ dep (mres x y z) ≤ 5 ∧ wt (mres x y z) ≤ 8000 := by
  have m := mrun_d hx hy hz lx ly lz
  obtain ⟨g, d, w⟩ := cls_d m.c m.cd
  have fl := m.f
  have sm : smRow (mrun x y z).1 := ⟨by omega, fun t ht => (tx_all t (m.fd t ht)).1⟩
  have wr := wtR m.fd
  have dr := row_dep (mrun x y z).1
  unfold mres
  split
  · refine ⟨gd_tup.mpr ⟨by simp, fun d hd => ?_⟩, ?_, ?_⟩
    · simp at hd
      rcases hd with rfl | rfl
      · decide +kernel
      · exact sm.gd
    · rw [dep]
      refine Nat.succ_le_succ (depAll_le.mpr fun d hd => ?_)
      simp at hd
      rcases hd with rfl | rfl
      · exact Nat.zero_le _
      · exact Nat.le_trans dr (by omega)
    · have h3 : wt (.str "merged") = 6 := by decide +kernel
      rw [wt, wtAll, wtAll, wtAll, h3]
      omega
  · refine ⟨gd_tup.mpr ⟨by simp, fun e he => ?_⟩, ?_, ?_⟩
    · simp at he
      rcases he with rfl | rfl
      · decide +kernel
      · exact g
    · rw [dep]
      refine Nat.succ_le_succ (depAll_le.mpr fun e he => ?_)
      simp at he
      rcases he with rfl | rfl
      · exact Nat.zero_le _
      · omega
    · have h3 : wt (.str "clash") = 5 := by decide +kernel
      rw [wt, wtAll, wtAll, wtAll, h3]
      omega
end K90

set_option maxHeartbeats 4000000
/-! K90t: _law_right. -/
namespace K90
open PySem PySem.Spec DL KB
open L2 (atI ixN)
open PyProof.Rows hiding St signs
variable {a b : Row}
theorem asg_pick {i : Nat} {t : DTE} {D : DEnds} {ρ : Rho} {M : Mp} (P : DL.D → Mp → Prop) (h : ∀ Q : DK, (∀ d M', P d M' → Q d M') → t ρ M Q) (k : ∀ d M', P d M' → D.nx (ρ.set i (some d)) M') : dAsg t (dgName i) D ρ M := h _ k
theorem mres_of {x y w z : Row} (h : (mrun x y w).1 = z ∧ (mrun x y w).2.1 = []) : mres x y w = .tup [.str "merged", R z] := by
  unfold mres
  rw [if_pos h.2, h.1]
theorem tx_five {d : DL.D} (h : d ∈ [DL.D.str "a", .str "b", .str "a", .str "cc", .str ""]) : ∃ x ∈ TX, d = .str x := by
  simp at h
  rcases h with rfl | rfl | rfl | rfl | rfl
  · exact ⟨"a", by decide, rfl⟩
  · exact ⟨"b", by decide, rfl⟩
  · exact ⟨"a", by decide, rfl⟩
  · exact ⟨"cc", by decide, rfl⟩
  · exact ⟨"", by decide, rfl⟩
def FairV (d : DL.D) : Prop := gd d = true ∧ dep d ≤ 60 ∧ wt d ≤ 3000
def sp_right : DS1 := fun ds M Q => ∃ (p : Addr) (c : Nat), ds = [.ref p] ∧ Pot M p c ∧ c ≤ 600 ∧ ∀ M', Dr M p M' (c + 300) → Q (.bl true) M'
theorem rd_right : ∀ ds M Q, sp_right ds M Q → ds.length = 1 ∧ r__law_right sp_rows sp_take sp_edited sp_common sp_lcommon sp_changes sp_lblocks sp_changed sp_odd (sp_bent 8) sp_ischg sp_merged sp_lmerged { nx := fun _ M' => Q .non M', rt := Q } (dstart N__law_right ds) M := by
  rintro _ M Q ⟨p, c, rfl, pot, hc, q⟩
  refine ⟨rfl, ?_⟩
  unfold r__law_right
  refine seq_ (asg_pick (fun d M' => ∃ x, d = R x ∧ dR x ∧ x.length ≤ 5 ∧ Dr M p M' (c + 7)) (fun Q q => ?_) ?_)
  · exact ⟨_, rfl, small (by simp), newTr ⟨p, c, _, rfl, pot, by omega, by simp, by simp, fun d hd => tx_five hd, fun a M' h1 h2 h3 => q _ _ ⟨a, rfl, h1, h2, h3⟩⟩⟩
  rintro _ M1 ⟨x, rfl, hx, lx, dr1⟩
  dsimp only
  refine seq_ (asg_pick (fun d M' => ∃ y, d = R y ∧ dR y ∧ y.length ≤ 8 ∧ Dr M p M' (c + 18)) (fun Q q => ?_) ?_)
  · refine ⟨_, rfl, p, _, _, rfl, dr1.1, by omega, by decide, by decide, fun d M2 d0 d1 dr2 => ?_⟩
    refine ⟨_, _, rfl, rfl, trivial, _, rfl, ?_⟩
    by_cases h : 0 < d
    · rw [decide_eq_true h]
      exact iteT ⟨_, rfl, _, rfl, p, _, x, rfl, dr2.1, by omega, hx, lx, fun b M' hb lb dr3 => q _ _ ⟨b, rfl, hb, lb, ((dr1.trans dr2).trans dr3).up (by omega)⟩⟩
    · rw [decide_eq_false h]
      exact iteF ⟨_, rfl, q _ _ ⟨x, rfl, hx, by omega, (dr1.trans dr2).up (by omega)⟩⟩
  rintro _ M2 ⟨y, rfl, hy, ly, dr2⟩
  dsimp only
  refine seq_ (asg_pick (fun d M' => ∃ z, d = R z ∧ dR z ∧ z.length ≤ 8 ∧ Dr M p M' (c + 29)) (fun Q q => ?_) ?_)
  · refine ⟨_, rfl, p, _, _, rfl, dr2.1, by omega, by decide, by decide, fun d M3 d0 d1 dr3 => ?_⟩
    refine ⟨_, _, rfl, rfl, trivial, _, rfl, ?_⟩
    by_cases h : 0 < d
    · rw [decide_eq_true h]
      exact iteT ⟨_, rfl, _, rfl, p, _, x, rfl, dr3.1, by omega, hx, lx, fun b M' hb lb dr4 => q _ _ ⟨b, rfl, hb, lb, ((dr2.trans dr3).trans dr4).up (by omega)⟩⟩
    · rw [decide_eq_false h]
      exact iteF ⟨_, rfl, q _ _ ⟨y, rfl, hy, ly, (dr2.trans dr3).up (by omega)⟩⟩
  rintro _ M3 ⟨z, rfl, hz, lz, dr3⟩
  dsimp only
  refine seq_ ?_
  refine ⟨_, rfl, _, rfl, _, rfl, small (by simp), ?_⟩
  refine lc_map (fun d => match d with | .tup xs => .int xs.length | _ => .non) (by exact trivial) [R x, R y, R z] [] (fun d hd K1 K2 k => ?_) (small (by simp)) ?_
  · have : ∃ w : Row, d = R w := by
      simp at hd
      rcases hd with rfl | rfl | rfl
      · exact ⟨x, rfl⟩
      · exact ⟨y, rfl⟩
      · exact ⟨z, rfl⟩
    obtain ⟨w, rfl⟩ := this
    exact ⟨_, rfl, _, rfl, k⟩
  refine newTr ⟨_, [(x.length : Int), (y.length : Int), (z.length : Int)], rfl, ?_, by simp, fun m hm hall => ?_⟩
  · show some [DL.D.int ((x.map DL.D.str).length : Nat), .int ((y.map DL.D.str).length : Nat), .int ((z.map DL.D.str).length : Nat)] = _
    rw [R_len, R_len, R_len]
    rfl
  refine ⟨_, _, rfl, rfl, trivial, _, rfl, ?_⟩
  by_cases h6 : 6 < m
  · rw [decide_eq_true h6]
    exact iteT (q _ (dr3.up (by omega)))
  rw [decide_eq_false h6]
  refine iteF (next_ ?_)
  have lx6 : x.length ≤ 6 := by have := hall x.length (by simp); omega
  have ly6 : y.length ≤ 6 := by have := hall y.length (by simp); omega
  have lz6 : z.length ≤ 6 := by have := hall z.length (by simp); omega
  clear hall hm h6
  have okx := hx.ok (by omega)
  have oky := hy.ok (by omega)
  have okz := hz.ok (by omega)
  dsimp only
  -- common
  obtain ⟨gc, dc, wc⟩ := ch_size (g := grA y z) (by have := gr_len y z; omega) fun w hw => by have := (gr_fact y z).2 w hw; omega
  refine seq_ (if_s (A := false) (tb_reprNe (v := .tup (chD (grA y z))) (w := chX (grA y z)) gc (by omega) (by omega) (chX_same _) (fun _ => rfl) (fun Q q => ⟨_, rfl, _, rfl, .inl ⟨y, z, rfl, oky, okz, q⟩⟩) (fun Q q => ⟨_, rfl, _, rfl, y, z, rfl, ly6, lz6, q⟩)) (fun h => nomatch h) fun _ => ?_)
  refine next_ ?_
  dsimp only
  -- changes
  obtain ⟨tt, gt, dt, wtt⟩ := blocks_size hy hz ly6 lz6
  have tb := told_blocks hy hz ly6 lz6
  have gz := row_gd okz
  have dz := row_dep z
  have wz := wtR hz
  have wy := wtR hy
  obtain ⟨T, eT⟩ : ∃ T, T = DL.D.tup ((blocks y z).map blkD) := ⟨_, rfl⟩
  refine seq_ (asgn_ (d := T) (fun Q q => ⟨_, rfl, _, rfl, .inl ⟨y, z, rfl, oky, okz, by rw [← eT]; exact q⟩⟩) ?_)
  dsimp only
  have eX : (DL.D.tup ((blocks y z).map blkX)).py = T.py := by rw [eT]; exact blkX_same _
  rw [← eT] at tt gt dt wtt tb
  refine seq_ (if_s (A := false) (tb_or (A := false) (B := false) (tb_reprNe (v := T) (w := .tup ((blocks y z).map blkX)) gt (by omega) (by omega) eX (fun _ => rfl) (tv_slot rfl) (fun Q q => ⟨_, rfl, _, rfl, y, z, rfl, oky, okz, ly6, lz6, q⟩)) fun _ => tb_reprNe (v := R z) (w := R z) gz (by omega) (by omega) rfl (fun _ => rfl) (fun Q q => ⟨_, rfl, _, rfl, .inl ⟨y, T, rfl, oky, gt, fun f hf => by rw [tb] at hf; cases hf; exact q, fun hn => by rw [tb] at hn; cases hn⟩⟩) (tv_slot rfl)) (fun h => nomatch h) fun _ => ?_)
  refine next_ ?_
  dsimp only
  -- the values
  refine seq_ ?_
  obtain ⟨ts, ets⟩ : ∃ ts, T = .tup ts := ⟨_, eT⟩
  have gts := gd_tup.mp (by rw [ets] at gt; exact gt)
  have fT : FairV T := ⟨gt, by omega, by omega⟩
  have fL : FairV (.lst ts) := by
    rw [ets] at dt wtt
    have h1 : depAll ts + 1 ≤ 3 := dt
    have h2 : wtAll ts ≤ 700 := wtt
    exact ⟨gd_lst.mpr gts, by show depAll ts + 1 ≤ 60; omega, by show wtAll ts ≤ 3000; omega⟩
  have fK : FairV (.tup [.tup [.str "keep", .int (y.length : Nat)]]) := by
    have h3 : wt (.str "keep") = 4 := by decide +kernel
    have h4 : wt (.int (y.length : Nat)) = 0 := rfl
    refine ⟨gd_tup.mpr ⟨by simp, fun d hd => ?_⟩, by simp [dep, depAll], by rw [wt, wtAll, wtAll, wt, wtAll, wtAll, wtAll, h3, h4]; omega⟩
    simp at hd
    subst hd
    refine gd_tup.mpr ⟨by simp, fun d hd => ?_⟩
    simp at hd
    rcases hd with rfl | rfl
    · decide +kernel
    · exact int_gd (by omega)
  refine ⟨_, rfl, _, rfl, _, ts, rfl, by rw [ets]; rfl, newTr ?_⟩
  refine ⟨_, rfl, p, _, rfl, dr3.1, by omega, fun v M4 gv dv wv dr4 => ?_⟩
  refine ⟨_, rfl, _, rfl, small (by simp), small (by simp), small (by simp), newTr ?_⟩
  rw [R_len]
  refine ⟨8, rfl, by decide, by decide, ?_⟩
  have d04 := dr3.trans dr4
  have tT : tree T = true := tt
  refine lc_inv (fun n M' => Dr M p M' (c + 30 + 29 * n)) FairV (fun _ _ _ => trivial) (rgD 0 (8 : Int).toNat) [] M4 (d04.up (by omega)) (fun _ h => nomatch h) (fun d hd n M' i hn K1 K2 k => ?_) (by rw [rg_len]; exact small (by decide)) fun ds M5 hl hp i => ?_
  · rw [rg_len] at hn
    have hn8 : n < 8 := by simpa using hn
    refine ⟨_, rfl, _, rfl, p, T, _, rfl, i.1, tT, gt, by omega, by omega, by omega, by omega, fun v' M6 g' d' w' dr6 => ?_⟩
    exact k v' M6 ⟨g', by omega, by omega⟩ ((i.trans dr6).up (by omega))
  rw [rg_len] at hl
  have hl8 : ds.length = 8 := by simpa using hl
  rw [hl8] at i
  refine newTr ⟨_, _, rfl, rfl, small (by rw [hl8]; simp), newTr ?_⟩
  obtain ⟨vals, ev⟩ : ∃ vals, vals = [T, .lst ts, v, .tup [.tup [.str "keep", .int (y.length : Nat)]]] ++ ds := ⟨_, rfl⟩
  have fv : ∀ d ∈ vals, FairV d := fun d hd => by
    rw [ev] at hd
    rcases List.mem_append.mp hd with h | h
    · simp at h
      rcases h with rfl | rfl | rfl | rfl
      · exact fT
      · exact fL
      · exact ⟨gv, by omega, by omega⟩
      · exact fK
    · exact hp d h
  show forW _ _ _ _ ([T, .lst ts, v, .tup [.tup [.str "keep", .int (y.length : Nat)]]] ++ ds) _ _
  rw [← ev]
  have hvals : vals = vals.map id := by simp
  rw [hvals]
  refine for_pre id vals (fun pre ρ M' => M' = M5 ∧ ∃ x5 x8 x9 x10 x11, ρ = [some (.ref p), some (R x), some (R y), some (R z), some T, x5, none, none, x8, x9, x10, x11, none, none, none, none, none, none]) (fun _ _ _ _ => trivial) ?_ ?_ vals [] _ _ rfl ⟨rfl, _, _, _, _, _, rfl⟩
  · rintro pre v suf e ρ _ ⟨rfl, x5, x8, x9, x10, x11, rfl⟩ N next
    obtain ⟨gv, dv, wv⟩ := fv v (by rw [← e]; simp)
    refine ⟨_, rfl, _, rfl, y, v, rfl, oky, gv, fun b f hf h1 h2 => ?_⟩
    refine ⟨_, rfl, rfl, _, _, rfl, _, _, rfl, rfl, ?_⟩
    cases b with
    | true =>
      have ht := h1 rfl
      have wf := told_wt ht
      have df := row_dep f
      refine ⟨_, rfl, _, rfl, .inl ⟨y, v, rfl, oky, gv, fun f' h => ?_, fun h => by rw [ht] at h; cases h⟩⟩
      rw [ht] at h
      cases h
      refine ⟨_, rfl, rfl, _, _, rfl, _, _, rfl, rfl, ?_⟩
      dsimp only
      refine seq_ (if_s (A := false) (tb_and (A := true) (B := false) (tb_b (tv_slot rfl)) fun _ => tb_reprNe (v := R f) (w := R f) hf.gd (by omega) (by omega) rfl (fun _ => rfl) (tv_slot rfl) (tv_slot rfl)) (fun h => nomatch h) fun _ => ?_)
      refine next_ ?_
      dsimp only
      refine if_s (A := false) (tb_and (A := false) (B := false) (tb_not (b := true) (tb_b (tv_slot rfl))) fun h => nomatch h) (fun h => nomatch h) fun _ => ?_
      exact next_ (next _ _ ⟨rfl, _, _, _, _, _, rfl⟩)
    | false =>
      have ht := h2 rfl
      refine ⟨_, rfl, _, rfl, .inl ⟨y, v, rfl, oky, gv, fun f' h => ?_, fun _ => ⟨rfl, ?_⟩⟩⟩
      · rw [ht] at h
        cases h
      refine ⟨_, rfl, rfl, _, _, rfl, _, _, rfl, rfl, ?_⟩
      dsimp only
      refine seq_ (if_s (A := false) (tb_and (A := false) (B := false) (tb_b (tv_slot rfl)) fun h => nomatch h) (fun h => nomatch h) fun _ => ?_)
      refine next_ ?_
      dsimp only
      have isb : isC "BadRow" "BadRow" = true := by decide
      refine if_s (A := false) (tb_and (A := true) (B := false) (tb_not (b := false) (tb_b (tv_slot rfl))) fun _ => tb_not (b := true) (tb_and (A := true) (B := true) (tb_b fun Q q => ⟨_, rfl, "BadRow", v, rfl, rfl, by rw [isb]; exact q⟩) fun _ => tb_reprEq gv dv (by omega) (fun Q q => ⟨_, rfl, "BadRow", v, rfl, rfl, q⟩) (tv_slot rfl))) (fun h => nomatch h) fun _ => ?_
      exact next_ (next _ _ ⟨rfl, _, _, _, _, _, rfl⟩)
  rintro ρ Mz ⟨rfl, x5, x8, x9, x10, x11, rfl⟩
  dsimp only
  -- merged
  obtain ⟨gm, dm, wm⟩ := mres_d hx hy hz lx6 ly6 lz6
  obtain ⟨gm2, dm2, wm2⟩ := mres_d hx hz hy lx6 lz6 ly6
  refine seq_ (asgn_ (d := mres x y z) (fun Q q => ⟨_, rfl, _, rfl, _, rfl, .inl ⟨x, y, z, rfl, okx, oky, okz, q⟩⟩) ?_)
  dsimp only
  refine seq_ (if_s (A := false) (tb_reprNe (v := mres x y z) (w := mres x y z) gm (by omega) wm rfl (nr_gd gm) (tv_slot rfl) (fun Q q => ⟨_, rfl, _, rfl, _, rfl, x, y, z, rfl, okx, oky, okz, lx6, ly6, lz6, q⟩)) (fun h => nomatch h) fun _ => ?_)
  refine next_ ?_
  dsimp only
  refine seq_ (asgn_ (d := mres x z y) (fun Q q => ⟨_, rfl, _, rfl, _, rfl, .inl ⟨x, z, y, rfl, okx, okz, oky, q⟩⟩) ?_)
  dsimp only
  have final : Q (.bl true) Mz := q Mz (i.up (by omega))
  have m1 := mres_of (mrun_base x z)
  have m2 := mres_of (mrun_back x z)
  have m3 := mres_of (mrun_same x z)
  have gM : gd (.tup [.str "merged", R z]) = true := gd_tup.mpr ⟨by simp, fun d hd => by
    simp at hd
    rcases hd with rfl | rfl
    · decide +kernel
    · exact gz⟩
  have dM : dep (.tup [.str "merged", R z]) ≤ 2 := by
    rw [dep]
    refine Nat.succ_le_succ (depAll_le.mpr fun d hd => ?_)
    simp at hd
    rcases hd with rfl | rfl
    · exact Nat.zero_le _
    · exact dz
  have gLM : gd (.lst [.tup [.str "merged", R z], .tup [.str "merged", R z], .tup [.str "merged", R z]]) = true := gd_lst.mpr ⟨by simp, fun d hd => by
    simp at hd
    subst hd
    exact gM⟩
  have dLM : dep (.lst [.tup [.str "merged", R z], .tup [.str "merged", R z], .tup [.str "merged", R z]]) ≤ 3 := by
    rw [dep]
    refine Nat.succ_le_succ (depAll_le.mpr fun d hd => ?_)
    simp at hd
    subst hd
    exact dM
  have tail : ∀ d4 d6, dSeq (dAsg (dLst true (dCons (dCallE sp_merged (dCons (dSlot 1) (dCons (dSlot 1) (dCons (dSlot 3) dNil))) fun _ _ _ => False) (dCons (dCallE sp_merged (dCons (dSlot 1) (dCons (dSlot 3) (dCons (dSlot 1) dNil))) fun _ _ _ => False) (dCons (dCallE sp_merged (dCons (dSlot 1) (dCons (dSlot 3) (dCons (dSlot 3) dNil))) fun _ _ _ => False) dNil)))) (dgName 7)) (dRet (dOp (rEqD2 false) (dSlot 7) (dOp (rMulD true) (dLst true (dCons (dTup (dCons (dC (.str "merged")) (dCons (dSlot 3) dNil))) dNil)) (dC (.int 3)))))
      { nx := fun _ M' => Q .non M', rt := Q } [some (.ref p), some (R x), some (R y), some (R z), some d4, x5, some d6, none, x8, x9, x10, x11, none, none, none, none, none, none] Mz := by
    intro d4 d6
    refine seq_ (asgn_ (d := .lst [.tup [.str "merged", R z], .tup [.str "merged", R z], .tup [.str "merged", R z]]) (fun Q q => ?_) ?_)
    · refine ⟨_, rfl, _, rfl, _, rfl, .inl ⟨x, x, z, rfl, okx, okx, okz, ?_⟩⟩
      refine ⟨_, rfl, _, rfl, _, rfl, .inl ⟨x, z, x, rfl, okx, okz, okx, ?_⟩⟩
      refine ⟨_, rfl, _, rfl, _, rfl, .inl ⟨x, z, z, rfl, okx, okz, okz, ?_⟩⟩
      rw [m1, m2, m3]
      exact ⟨small (by simp), newTr q⟩
    · dsimp only
      refine ret_ (eq_same (.inr ⟨_, rfl⟩) gLM (by omega) (tv_slot rfl) fun Q q => ?_) final
      exact ⟨_, rfl, small (by simp), small (by simp), newTr ⟨_, rfl, by decide, by decide, small (by simp), newTr q⟩⟩
  have sym := mrun_sym x y z
  by_cases hcl : (mrun x y z).2.1 = []
  · have e1 := mres_of ⟨rfl, hcl⟩
    have e2 : mres x z y = mres x y z := by
      rw [e1]
      refine mres_of ⟨by rw [sym]; rfl, ?_⟩
      rw [sym]
      show (mrun x y z).2.1.map swC = []
      rw [hcl]; rfl
    rw [e2]
    have tl : (∃ xs, mres x y z = .tup xs) ∨ ∃ xs, mres x y z = .lst xs := .inl ⟨_, e1⟩
    have i0 : ∀ {ρ : Rho} {M : Mp}, ρ[4]? = some (some (mres x y z)) → TV (dOp rIxD (dSlot 4) (dC (.int 0))) ρ M (.str "merged") := fun h => tv_ix (xs := [.str "merged", R (mrun x y z).1]) ix0 (tv_slot (by rw [h, e1])) tv_c
    refine seq_ (if_s (A := false) (tb_and (A := true) (B := false) (tb_b (tv_eqS (i0 rfl) tv_c)) fun _ => tb_b (eq_same tl gm (by omega) (tv_slot rfl) (tv_slot rfl))) (fun h => nomatch h) fun _ => ?_)
    refine next_ ?_
    dsimp only
    refine seq_ (if_s (A := false) (tb_and (A := false) (B := false) (tb_b (tv_eqS (i0 rfl) tv_c)) fun h => nomatch h) (fun h => nomatch h) fun _ => ?_)
    exact next_ (tail _ _)
  · have e1 : mres x y z = .tup [.str "clash", .tup ((mrun x y z).2.1.map clD)] := by unfold mres; rw [if_neg hcl]
    have e2 : mres x z y = .tup [.str "clash", .tup (((mrun x y z).2.1.map swC).map clD)] := by
      unfold mres
      rw [sym]
      show (if (mrun x y z).2.1.map swC = [] then _ else _) = _
      rw [if_neg (fun h => hcl (List.map_eq_nil_iff.mp h))]
      rfl
    have sm := mrun_d hx hy hz lx6 ly6 lz6
    have cc := sm.c
    have i0 : ∀ {ρ : Rho} {M : Mp}, ρ[4]? = some (some (mres x y z)) → TV (dOp rIxD (dSlot 4) (dC (.int 0))) ρ M (.str "clash") := fun h => tv_ix (xs := [.str "clash", .tup ((mrun x y z).2.1.map clD)]) ix0 (tv_slot (by rw [h, e1])) tv_c
    have i1 : ∀ {ρ : Rho} {M : Mp}, ρ[4]? = some (some (mres x y z)) → TV (dOp rIxD (dSlot 4) (dC (.int 1))) ρ M (.tup ((mrun x y z).2.1.map clD)) := fun h => tv_ix (xs := [.str "clash", .tup ((mrun x y z).2.1.map clD)]) ix1 (tv_slot (by rw [h, e1])) tv_c
    have i2 : ∀ {ρ : Rho} {M : Mp}, ρ[6]? = some (some (mres x z y)) → TV (dOp rIxD (dSlot 6) (dC (.int 1))) ρ M (.tup (((mrun x y z).2.1.map swC).map clD)) := fun h => tv_ix (xs := [.str "clash", .tup (((mrun x y z).2.1.map swC).map clD)]) ix1 (tv_slot (by rw [h, e2])) tv_c
    refine seq_ (if_s (A := false) (tb_and (A := false) (B := false) (tb_b (tv_eqS (i0 rfl) tv_c)) fun h => nomatch h) (fun h => nomatch h) fun _ => ?_)
    refine next_ ?_
    dsimp only
    obtain ⟨gs, ds', ws⟩ := cls_d (cl := (mrun x y z).2.1.map swC) (by rw [List.length_map]; exact cc) fun w hw => by
      obtain ⟨u, hu, rfl⟩ := List.mem_map.mp hw
      obtain ⟨k1, k2, k3, k4, k5, k6⟩ := sm.cd u hu
      exact ⟨k1, k2, k4, k3, k6, k5⟩
    refine seq_ (if_s (A := false) (tb_and (A := true) (B := false) (tb_b (tv_eqS (i0 rfl) tv_c)) fun _ => tb_b (eq_same (.inl ⟨_, rfl⟩) gs (by omega) (i2 rfl) fun Q q => ?_)) (fun h => nomatch h) fun _ => ?_)
    · refine i1 rfl _ ?_
      refine lc_pure clD (fun c => clD (swC c)) (by exact trivial) (mrun x y z).2.1 (fun c hc K1 K2 k => ?_) (small (by omega)) ?_
      · refine ⟨_, rfl, rfl, _, _, rfl, _, _, rfl, _, _, rfl, _, _, rfl, rfl, ?_⟩
        exact tv_tup4 (tv_slot rfl) (tv_slot rfl) (tv_slot rfl) (tv_slot rfl) _ k
      · refine newTr (tupd_of (d := .lst _) rfl ?_)
        rw [List.map_map] at q
        exact q
    exact next_ (tail _ _)
end K90

set_option maxHeartbeats 4000000
/-! K90u: the rows of forty texts. -/
namespace K90
open PySem PySem.Spec DL KB
open L2 (atI ixN)
open PyProof.Rows hiding St signs
def LR : Row := (List.range 40).map fun k => repS "a" ((k : Nat) : Int)
def L1 : Row := LR.take 7 ++ [("x" : Str)] ++ LR.drop 8
def L2' : Row := LR.take 39 ++ [("y" : Str)]
def LF : Row := LR.take 7 ++ [("x" : Str)] ++ cutN LR 8 39 ++ [("y" : Str)]
theorem ok_of {a : Row} (h : rowB (R a) = true) : okRow a := by
  obtain ⟨b, e, hb⟩ := row_of h
  have : a = b := by
    have h1 := congrArg rowOf e
    rw [rowOf_R, rowOf_R] at h1
    exact h1
  rw [this]; exact hb
theorem ok_LR : okRow LR := ok_of (by decide +kernel)
theorem ok_L1 : okRow L1 := ok_of (by decide +kernel)
theorem ok_L2 : okRow L2' := ok_of (by decide +kernel)
theorem ok_LV : okRow LR.reverse := ok_of (by decide +kernel)
theorem ok_LF : okRow LF := ok_of (by decide +kernel)
def P1 (p : Nat) : Bool := decide (p ≠ 7)
def P2 (p : Nat) : Bool := decide (p ≠ 39)
theorem all2 {f : Nat → Nat → Bool} {n : Nat} (h : ((List.range n).all fun p => (List.range n).all fun q => f p q) = true) {p q : Nat} (hp : p < n) (hq : q < n) : f p q = true := by
  rw [List.all_eq_true] at h
  have := h p (List.mem_range.mpr hp)
  rw [List.all_eq_true] at this
  exact this q (List.mem_range.mpr hq)
theorem L1_at : ((List.range 40).all fun p => (List.range 40).all fun q => decide (LR[p]? = L1[q]?) == (decide (p = q) && P1 p)) = true := by decide +kernel
theorem L2_at : ((List.range 40).all fun p => (List.range 40).all fun q => decide (LR[p]? = L2'[q]?) == (decide (p = q) && P2 p)) = true := by decide +kernel
theorem LV_at : ((List.range 40).all fun p => (List.range 40).all fun q => decide (LR[p]? = LR.reverse[q]?) == decide (p + q = 39)) = true := by decide +kernel
theorem gr_1 : grA LR L1 = ((List.range 40).filter P1).map fun p => (p, p) := by
  refine gr_diag P1 (by decide +kernel) (by decide +kernel) (fun p hp h => ?_) fun p q hp hq h => ?_
  · have := all2 L1_at hp hp
    rw [beq_iff_eq, decide_eq_true rfl, h] at this
    exact of_decide_eq_true this
  · have := all2 L1_at hp hq
    rw [beq_iff_eq, decide_eq_true h] at this
    have := this.symm
    rw [Bool.and_eq_true, decide_eq_true_eq] at this
    exact this
theorem gr_2 : grA LR L2' = ((List.range 40).filter P2).map fun p => (p, p) := by
  refine gr_diag P2 (by decide +kernel) (by decide +kernel) (fun p hp h => ?_) fun p q hp hq h => ?_
  · have := all2 L2_at hp hp
    rw [beq_iff_eq, decide_eq_true rfl, h] at this
    exact of_decide_eq_true this
  · have := all2 L2_at hp hq
    rw [beq_iff_eq, decide_eq_true h] at this
    have := this.symm
    rw [Bool.and_eq_true, decide_eq_true_eq] at this
    exact this
def ST : List Pl := ((List.range LR.length).filter (both (((List.range 40).filter P1).map fun p => (p, p)) (((List.range 40).filter P2).map fun p => (p, p)))).map (plAt (((List.range 40).filter P1).map fun p => (p, p)) (((List.range 40).filter P2).map fun p => (p, p))) ++ [(LR.length, L1.length, L2'.length)]
theorem st_L : stab LR L1 L2' = ST := by
  unfold stab ST
  rw [gr_1, gr_2]
theorem run_L : (ST.foldl (mstep LR L1 L2') ([], [], 0, 0, 0)).1 = LF ∧ (ST.foldl (mstep LR L1 L2') ([], [], 0, 0, 0)).2.1 = [] := by decide +kernel
theorem mres_L : mres LR L1 L2' = .tup [.str "merged", R LF] := by
  refine mres_of ?_
  unfold mrun
  rw [st_L]
  exact run_L
theorem len_LV : (grA LR LR.reverse).length = 1 := by
  obtain ⟨c1, c2⟩ := gr_ch (a := LR) (b := LR.reverse) (i := 0) (j := 0) rfl
  have l1 : LR.length = 40 := by decide +kernel
  have l2 : LR.reverse.length = 40 := by rw [List.length_reverse]; exact l1
  have ge : 1 ≤ lc LR LR.reverse 0 0 := by
    have h := all2 LV_at (p := 0) (q := 39) (by omega) (by omega)
    rw [beq_iff_eq, decide_eq_true (show 0 + 39 = 39 from rfl)] at h
    have := lc_pair (a := LR) (b := LR.reverse) (i := 0) (j := 0) (p := 0) (q := 39) (by omega) (by omega) (by omega) (by omega) (of_decide_eq_true h)
    omega
  unfold grA
  rw [c2]
  have le : lc LR LR.reverse 0 0 ≤ 1 := by
    generalize hc : gr LR LR.reverse (lc LR LR.reverse 0 0) 0 0 = c at c1 c2
    match c, c1, c2 with
    | [], _, h => simp at h; omega
    | [_], _, h => simp at h; omega
    | x :: y :: r, ⟨h1, h2, h3, h4, h5, k1, k2, k3, k4, k5, _⟩, _ =>
      exfalso
      have e1 := all2 LV_at (p := x.1) (q := x.2) (by omega) (by omega)
      have e2 := all2 LV_at (p := y.1) (q := y.2) (by omega) (by omega)
      rw [beq_iff_eq, decide_eq_true h5] at e1
      rw [beq_iff_eq, decide_eq_true k5] at e2
      have := of_decide_eq_true e1.symm
      have := of_decide_eq_true e2.symm
      omega
  omega
/-! ### what is no row -/
def oddR : List DL.D := [.non, .lst [.str "a"], .tup (List.replicate (41 : Int).toNat [DL.D.str "a"]).flatten, .tup [.str (repS "a" 101)], .tup [.str "A"], .tup [.int 1], .str "a"]
theorem oddR_b : (oddR.all fun d => gd d && decide (dep d ≤ 5) && decide (wt d ≤ 1000) && !rowB d) = true := by decide +kernel
theorem oddR_f {d : DL.D} (h : d ∈ oddR) : gd d = true ∧ dep d ≤ 5 ∧ wt d ≤ 1000 ∧ rowB d = false := by
  have := List.all_eq_true.mp oddR_b d h
  simp only [Bool.and_eq_true, decide_eq_true_eq, Bool.not_eq_true'] at this
  exact ⟨this.1.1.1, this.1.1.2, this.1.2, this.2⟩
end K90

set_option maxHeartbeats 4000000
/-! K90v: law. -/
namespace K90
open PySem PySem.Spec DL KB
open L2 (atI ixN)
open PyProof.Rows hiding St signs
section
variable {t : DTE} {ρ : Rho} {M : Mp} {x : Row}
theorem tv_to {k : Nat} {tk : DTE} (h : TV t ρ M (R x)) (l : TV tk ρ M (.int (k : Nat))) : TV (dSl true t dNoPart (dPart tk)) ρ M (R (x.take k)) := fun Q q => h _ (l _ ⟨_, rfl, by
  show Q (.tup (DL.cutD (x.map .str) none (some ((k : Nat) : Int)))) M
  rw [cut_to, ← List.map_take]
  exact q⟩)
theorem tv_from {k : Nat} {tk : DTE} (h : TV t ρ M (R x)) (l : TV tk ρ M (.int (k : Nat))) : TV (dSl true t (dPart tk) dNoPart) ρ M (R (x.drop k)) := fun Q q => h _ (l _ ⟨_, rfl, by
  show Q (.tup (DL.cutD (x.map .str) (some ((k : Nat) : Int)) none)) M
  rw [cut_from, ← List.map_drop]
  exact q⟩)
theorem tv_one {s : Str} : TV (dTup (dCons (dC (.str s)) dNil)) ρ M (R [s]) := fun Q q => ⟨small (by simp), q⟩
theorem tv_revR (h : TV t ρ M (R x)) : TV (dRevS true t) ρ M (R x.reverse) := fun Q q => h _ (by
  show Q (.tup (x.map .str).reverse) M
  rw [← List.map_reverse]
  exact q)
end
theorem callE2 {sp : DSp} {t u : DTE} {E : DXK} {ρ : Rho} {M : Mp} {Q : DK} (h : t ρ M fun d M1 => u ρ M1 fun e M2 => sp [d, e] M2 Q E) : dCallE sp (dCons t (dCons u dNil)) E ρ M Q := h
theorem callE3 {sp : DSp} {t u v : DTE} {E : DXK} {ρ : Rho} {M : Mp} {Q : DK} (h : t ρ M fun d M1 => u ρ M1 fun e M2 => v ρ M2 fun f M3 => sp [d, e, f] M3 Q E) : dCallE sp (dCons t (dCons u (dCons v dNil))) E ρ M Q := h
theorem tb_isE {v : DL.D} {i : Nat} {ρ : Rho} {M : Mp} (h : ρ[i]? = some (some (.exc "BadRow" v))) : TB (dB (dIsE kn (isC "BadRow") (dSlot i))) ρ M true := tb_b fun Q q => ⟨_, h, "BadRow", v, rfl, rfl, by
  have isb : isC "BadRow" "BadRow" = true := by decide
  rw [isb]; exact q⟩
def sp_law : DS1 := fun ds M Q => ∃ ns : List Int, ds = [.slst (ns.map D.int)] ∧ ns.length ≤ 100000 ∧ ∀ M', Q (.bl true) M'
theorem rd_law (lq : Str) (P0 PP1 PP2 PP3 PP4 PP5 : Addr → Addr → Heap → Prop) : ∀ ds M Q, sp_law ds M Q → ds.length = 1 ∧ r_law sp_places sp_pot sp_right sp_common sp_changes sp_changed sp_merged lq P0 PP1 PP2 PP3 PP4 PP5 { nx := fun _ M' => Q .non M', rt := Q } (dstart N_law ds) M := by
  rintro _ M Q ⟨ns, rfl, ln, q⟩
  refine ⟨rfl, ?_⟩
  unfold r_law
  refine seq_ ?_
  refine ⟨_, rfl, ns, rfl, ln, fun n hn => ?_⟩
  have e0 : rgD 0 n = (List.range n).map fun k : Nat => DL.D.int (k : Nat) := by
    unfold rgD
    refine List.map_congr_left fun k _ => ?_
    rw [Int.zero_add]
  show forW _ _ _ _ (rgD 0 n) _ _
  rw [e0]
  refine for_cnt _ n (fun _ ρ _ => ∃ x1 x5, ρ = [some (.slst (ns.map D.int)), x1, none, none, none, x5, none, none, none, none, none]) (fun _ _ _ _ => trivial) ?_ ?_ ⟨none, none, rfl⟩
  · rintro k hk ρ M1 ⟨x1, x5, rfl⟩ N next
    refine ⟨_, rfl, _, rfl, ns, k, rfl, ln, by omega, fun p M2 _ pot => ?_⟩
    dsimp only
    refine ⟨3, rfl, by decide, by decide, ?_⟩
    refine lc_inv (fun n M' => Dr M2 p M' (300 * n)) (fun d => d = .bl true) (fun _ _ _ => trivial) (rgD 0 (3 : Int).toNat) [] M2 (Dr.refl pot) (fun _ h => nomatch h) (fun d hd n M' i hn K1 K2 k => ?_) (by rw [rg_len]; exact small (by decide)) fun ds M5 hl hp i => ?_
    · rw [rg_len] at hn
      have hn3 : n < 3 := by simpa using hn
      exact ⟨_, rfl, p, _, rfl, i.1, by omega, fun M3 dr => k _ M3 rfl ((i.trans dr).up (by omega))⟩
    · obtain ⟨bs, e1, e2⟩ := trues hp
      refine newTr ⟨_, bs, rfl, e1, _, rfl, ?_⟩
      rw [e2]
      exact iteF (next_ (next _ _ ⟨_, _, rfl⟩))
  rintro ρ M1 ⟨x1, x5, rfl⟩
  dsimp only
  refine seq_ ?_
  refine ⟨small (by simp), newTr ?_⟩
  refine ⟨small (by simp), [.str "a"], 41, rfl, rfl, by simp, by simp, by decide, by decide, ?_⟩
  refine ⟨by decide, by decide, by decide, small (by simp), small (by simp), small (by simp), small (by simp), ?_⟩
  show forW _ _ _ _ oddR _ _
  have ho : oddR = oddR.map id := by simp
  rw [ho]
  refine for_pre id oddR (fun _ ρ _ => ∃ x1 x2 x5 x6 x7 x8, ρ = [some (.slst (ns.map D.int)), x1, x2, none, none, x5, x6, x7, x8, none, none]) (fun _ _ _ _ => trivial) ?_ ?_ oddR [] _ _ rfl ⟨_, _, _, _, _, _, rfl⟩
  · rintro pre v suf e ρ M2 ⟨x1, x2, x5, x6, x7, x8, rfl⟩ N next
    obtain ⟨gv, dv, wv, bv⟩ := oddR_f (show v ∈ oddR by rw [← e]; simp)
    refine ⟨small (by simp), fun w hw => ?_⟩
    have few : ∀ n : Nat, n ≤ 10 → n < sizeLine := fun n h => Nat.lt_of_lt_of_le (show n < 100000 by omega) (small (Nat.le_refl _))
    have iso : ∀ o, (lstOf (mu M2 w (.lst o)) (.ref w)).isSome = true := fun o => by show (mol (mu M2 w _ w)).isSome = true; rw [mu_same]; rfl
    refine ⟨_, rfl, iso _, w, _, _, rfl, rfl, mu_same, few _ (by simp), ?_⟩
    rw [mu_mu]
    refine ⟨_, rfl, iso _, w, _, _, rfl, rfl, mu_same, few _ (by simp), ?_⟩
    rw [mu_mu]
    refine ⟨_, rfl, iso _, w, _, _, rfl, rfl, mu_same, few _ (by simp), ?_⟩
    rw [mu_mu]
    refine ⟨_, rfl, iso _, w, _, _, rfl, rfl, mu_same, few _ (by simp), ?_⟩
    rw [mu_mu]
    refine ⟨_, rfl, iso _, w, _, _, rfl, rfl, mu_same, few _ (by simp), ?_⟩
    rw [mu_mu]
    obtain ⟨ls, els⟩ : ∃ ls, ls = [DL.D.lam lq P0, .lam lq PP1, .lam lq PP2, .lam lq PP3, .lam lq PP4, .lam lq PP5] := ⟨_, rfl⟩
    refine ⟨_, rfl, ls, by rw [mu_same, els]; rfl, ?_⟩
    have hl : ls = ls.map id := by simp
    have hG : mu M2 w (.lst ([DL.D.lam lq P0] ++ [.lam lq PP1] ++ [.lam lq PP2] ++ [.lam lq PP3] ++ [.lam lq PP4] ++ [.lam lq PP5])) w = some (.lst ls) := by rw [mu_same, els]; rfl
    generalize mu M2 w (.lst ([DL.D.lam lq P0] ++ [.lam lq PP1] ++ [.lam lq PP2] ++ [.lam lq PP3] ++ [.lam lq PP4] ++ [.lam lq PP5])) = M3 at hG ⊢
    rw [hl]
    refine for_pre id ls (fun _ ρ M' => M' w = some (.lst (ls.map id)) ∧ ∃ x7 x8, ρ = [some (.slst (ns.map D.int)), x1, some v, none, none, x5, some (.ref w), x7, x8, none, none]) (fun _ _ _ h => h.1) ?_ ?_ ls [] _ _ rfl ⟨by rw [← hl]; exact hG, _, _, rfl⟩
    · rintro pre2 d suf2 e2 ρ M4 ⟨hM, x7, x8, rfl⟩ N2 next2
      have hd : d ∈ ls := by rw [← e2]; simp
      have nilR : okRow [] := ⟨Nat.zero_le _, fun _ h => nomatch h⟩
      have ev : TV (dExcV kn (dSlot 8)) [some (.slst (ns.map D.int)), x1, some v, none, none, x5, some (.ref w), some d, some (.exc "BadRow" v), none, none] M4 v := fun Q q => ⟨_, rfl, "BadRow", v, rfl, rfl, q⟩
      have fin : ∀ (DD : DEnds), DD.nx = N2 → dIfS (dOrT (dNotT (dB (dIsE kn (isC "BadRow") (dSlot 8)))) (dB (dOp (rEqD2 true) (dCB rReprD (dCons (dExcV kn (dSlot 8)) dNil)) (dCB rReprD (dCons (dSlot 2) dNil))))) (dRet (dC (.bl false))) dNext DD
          [some (.slst (ns.map D.int)), x1, some v, none, none, x5, some (.ref w), some d, some (.exc "BadRow" v), none, none] M4 := by
        rintro ⟨_, _, _, _⟩ rfl
        refine if_s (A := false) (tb_or (A := false) (B := false) (tb_not (b := true) (tb_isE rfl)) fun _ => tb_reprNe (v := v) (w := v) gv (by omega) (by omega) rfl (nr_gd gv) ev (tv_slot rfl)) (fun h => nomatch h) fun _ => ?_
        exact next_ (next2 _ _ ⟨hM, _, _, rfl⟩)
      have ex0 : atI [DL.D.exc "BadRow" v, .non] 0 = some (.exc "BadRow" v) := ix0
      have bA : ∀ (w : DL.D) (E : DXK), E "BadRow" v M4 → badA v w M4 E := fun w E h => ⟨gv, bv, h⟩
      rw [els] at hd
      simp only [List.mem_cons, List.not_mem_nil, or_false] at hd
      rcases hd with rfl | rfl | rfl | rfl | rfl | rfl
      · refine .inl ⟨rfl, ?_⟩
        refine ⟨_, rfl, .inr ⟨v, .non, rfl, .inl (bA _ _ ⟨rfl, ?_⟩)⟩⟩
        exact ⟨_, _, rfl, ex0, fin _ rfl⟩
      · refine .inr (.inl ⟨rfl, ?_⟩)
        refine ⟨small (by simp), _, rfl, .inr ⟨_, v, rfl, .inr ⟨[], rfl, nilR, gv, bv, rfl, ?_⟩⟩⟩
        exact ⟨_, _, rfl, ex0, fin _ rfl⟩
      · refine .inr (.inr (.inl ⟨rfl, ?_⟩))
        refine ⟨_, rfl, .inr ⟨v, .non, rfl, .inl (bA _ _ ⟨rfl, ?_⟩)⟩⟩
        exact ⟨_, _, rfl, ex0, fin _ rfl⟩
      · refine .inr (.inr (.inr (.inl ⟨rfl, ?_⟩)))
        refine ⟨_, rfl, .inr ⟨v, .non, rfl, bA _ _ ⟨rfl, ?_⟩⟩⟩
        exact ⟨_, _, rfl, ex0, fin _ rfl⟩
      · refine .inr (.inr (.inr (.inr (.inl ⟨rfl, ?_⟩))))
        refine ⟨small (by simp), _, rfl, .inr ⟨_, v, .non, rfl, .inl ⟨[], rfl, nilR, bA _ _ ⟨rfl, ?_⟩⟩⟩⟩
        exact ⟨_, _, rfl, ex0, fin _ rfl⟩
      · refine .inr (.inr (.inr (.inr (.inr (.inl ⟨rfl, ?_⟩)))))
        refine ⟨small (by simp), small (by simp), _, rfl, .inr ⟨_, _, v, rfl, .inr ⟨[], [], rfl, nilR, rfl, nilR, gv, bv, rfl, ?_⟩⟩⟩
        exact ⟨_, _, rfl, ex0, fin _ rfl⟩
    · rintro ρ M4 ⟨_, x7, x8, rfl⟩
      exact next _ _ ⟨_, _, _, _, _, _, rfl⟩
  rintro ρ M2 ⟨x1, x2, x5, x6, x7, x8, rfl⟩
  dsimp only
  refine seq_ (asgn_ (d := R LR) (fun Q q => ?_) ?_)
  · refine ⟨40, rfl, by decide, by decide, ?_⟩
    have e40 : rgD 0 (40 : Int).toNat = (List.range 40).map fun k : Nat => DL.D.int (k : Nat) := by
      show rgD 0 40 = _
      unfold rgD
      refine List.map_congr_left fun k _ => ?_
      rw [Int.zero_add]
    show lcW _ _ _ _ _ _ (rgD 0 (40 : Int).toNat) [] M2
    rw [e40]
    refine lc_pure (G := fun _ => True) (fun k : Nat => DL.D.int (k : Nat)) (fun k : Nat => .str (repS "a" ((k : Nat) : Int))) (by exact trivial) (List.range 40) (fun k hk K1 K2 h => ?_) (small (by simp)) ?_
    · rw [List.mem_range] at hk
      exact ⟨_, rfl, by omega, by omega, by decide, h⟩
    · refine newTr (tupd_of (d := .lst _) rfl ?_)
      have : (List.range 40).map (fun k : Nat => DL.D.str (repS "a" ((k : Nat) : Int))) = LR.map .str := by unfold LR; rw [List.map_map]; rfl
      rw [this]
      exact q
  dsimp only
  have l40 : LR.length = 40 := by decide +kernel
  have s3 : ∀ {x4 : Option DL.D} {M : Mp}, TV (dSlot 3) [some (.slst (ns.map D.int)), x1, x2, some (R LR), x4, x5, x6, x7, x8, none, none] M (R LR) := fun {x4 M} => tv_slot rfl
  have tl : ∀ (k : Nat), (LR.take k).length ≤ 40 ∧ (LR.drop k).length ≤ 40 := fun k => ⟨by rw [List.length_take]; omega, by rw [List.length_drop]; omega⟩
  have t7 := tl 7
  have t8 := tl 8
  have t39 := tl 39
  have tc := cutN_len LR 8 39
  refine seq_ (asgn_ (d := .tup [.str "merged", R LF]) (fun Q q => ?_) ?_)
  · rw [← mres_L] at q
    refine callE3 (s3 _ ?_)
    refine tv_addR (x := LR.take 7 ++ [("x" : Str)]) (y := LR.drop 8) (by simp at t7 t8 ⊢; omega) (tv_addR (x := LR.take 7) (y := [("x" : Str)]) (by simp at t7 ⊢; omega) (tv_to (k := 7) s3 tv_c) tv_one) (tv_from (k := 8) s3 tv_c) _ ?_
    refine tv_addR (x := LR.take 39) (y := [("y" : Str)]) (by simp at t39 ⊢; omega) (tv_to (k := 39) s3 tv_c) tv_one _ ?_
    exact .inl ⟨LR, L1, L2', rfl, ok_LR, ok_L1, ok_L2, q⟩
  dsimp only
  have gF : gd (.tup [.str "merged", R LF]) = true := gd_tup.mpr ⟨by simp, fun d hd => by
    simp at hd
    rcases hd with rfl | rfl
    · decide +kernel
    · exact row_gd ok_LF⟩
  have dF : dep (.tup [.str "merged", R LF]) ≤ 2 := by
    have := row_dep LF
    rw [dep]
    refine Nat.succ_le_succ (depAll_le.mpr fun d hd => ?_)
    simp at hd
    rcases hd with rfl | rfl
    · exact Nat.zero_le _
    · exact this
  refine ret_ (d := .bl true) (tv_and (A := true) (B := true) (eq_same (.inl ⟨_, rfl⟩) gF (by omega) (tv_slot rfl) (tv_tup2 tv_c ?_)) fun _ => ?_) (q M2)
  · refine tv_addR (x := LR.take 7 ++ [("x" : Str)] ++ cutN LR 8 39) (y := [("y" : Str)]) (by simp at t7 ⊢; omega) (tv_addR (x := LR.take 7 ++ [("x" : Str)]) (y := cutN LR 8 39) (by simp at t7 ⊢; omega) (tv_addR (x := LR.take 7) (y := [("x" : Str)]) (by simp at t7 ⊢; omega) (tv_to (k := 7) s3 tv_c) tv_one) (tv_slR (i := 8) (j := 39) rfl rfl s3 tv_c tv_c)) tv_one
  · have lt : TV (dCallE sp_common (dCons (dSlot 3) (dCons (dRevS true (dSlot 3)) dNil)) fun _ _ _ => False) [some (.slst (ns.map D.int)), x1, x2, some (R LR), some (.tup [.str "merged", R LF]), x5, x6, x7, x8, none, none] M2 (.tup (chD (grA LR LR.reverse))) := fun Q q => callE2 (s3 _ (tv_revR s3 _ (.inl ⟨LR, LR.reverse, rfl, ok_LR, ok_LV, q⟩)))
    have := tv_eqI (tv_len lt) (tv_c (d := .int 1))
    have e1 : decide (((chD (grA LR LR.reverse)).length : Int) = 1) = true := by
      have := len_LV
      unfold chD
      rw [List.length_map, this]
      rfl
    rw [e1] at this
    exact this
end K90

set_option maxHeartbeats 8000000
/-! K90n: the defs together; the walk (turned from K27n). -/
namespace K90
open PySem PySem.Spec L2 DL KB
open PyProof.Rows hiding St signs

section
variable {P : Program} {w : World} {K : PySem.W.Frag} {mg : Str → Option Value} {base : Heap}
/-- the tables of the two defs that make lambdas -/
abbrev TT2 (PL PR : Addr) : TT8 := [(PL, lamQ "law"), (PR, lamQ "_law_right")]
theorem all_law (T : Txt K mg) (XE : Exs P w K mg base) {CS CT : Addr} (XK : Kns K mg CS CT) {cL PL cR PR : Addr} (tL : LamX.TabB base mg cL PL) (tR : LamX.TabB base mg cR PR) (ne : PL ≠ PR)
    (hR : HasL K mg "_law_right" st__law_right ["pot"] cR)
    {f : Addr} {oc : Value} {od : Option Addr} {dV kV doc pm : Value} {an : Option Addr} {ct : Value} {osl : Array (Option Value)}
    (lk : K.lookup f = some ⟨oc, od, .func (PySem.W.fnOf "law" "law" (L2.defArgs st_law) (L2.defBody st_law) (L2.defScope st_law) dV kV doc pm an (.ref cL) ct), osl⟩) (hcd : PySem.W.codeIn K (.ref cL) "law" = true) :
    GnOk P w K mg base (L2.CX P w) 17 f (PySem.W.fnOf "law" "law" (L2.defArgs st_law) (L2.defBody st_law) (L2.defScope st_law) dV kV doc pm an (.ref cL) ct) ["script"] (lift K (TT2 PL PR) (quiet sp_law)) := by
  have t1 := c_is_tuple (P := P) (w := w) (base := base) (k := 0) (TT := TT2 PL PR) T rd_tuple
  have t2 := c_is_text (P := P) (w := w) (base := base) (k := 0) (TT := TT2 PL PR) T rd_text
  have t3 := c_check_row (k := 2) T XE (by decide) (t1.mono (by decide)) (t2.mono (by decide)) rd_check
  have t4 := c_longest_from (P := P) (w := w) (base := base) (k := 0) (TT := TT2 PL PR) T rd_longest
  have t5 := c_fits (P := P) (w := w) (base := base) (k := 0) (TT := TT2 PL PR) T rd_fits
  have t6 := (c_pairs_of (k := 1) T t4 t5 rd_pairs).weak wk_pairs
  have t7 := c_common (k := 3) T t3 (t6.mono (by decide)) rd_common
  have t8 := c_blocks_of (k := 2) T t6 rd_blocks
  have t9 := (c_changes (k := 3) T t3 t8 rd_changes).weak wk_changes
  have t10 := c_is_block (k := 1) T t1 t2 rd_blk
  have t11 := c_is_changes (k := 2) T t10 (t1.mono (by decide)) rd_chg
  have t12 := (c_changed (k := 3) T XE (by decide) t3 t11 rd_changed).weak wk_changed
  have t13 := c_stable_places (k := 2) T t6 rd_stab
  have t14 := c_taken_of (P := P) (w := w) (base := base) (k := 0) (TT := TT2 PL PR) T rd_taken
  have t15 := c_merged_rows (k := 3) T t13 (t14.mono (by decide)) rd_mrows
  have t16 := (c_merged (k := 4) T (t3.mono (by decide)) t15 rd_merged).weak wk_merged
  have u1 := c__law_take (P := P) (w := w) (base := base) (k := 0) (TT := TT2 PL PR) T rd_take
  have u2 := c__law_of (k := 1) T u1 rd_of
  have u3 := c__law_odd (k := 2) T u2 rd_odd
  have be : ∀ N : Nat, Cal1 P w K (TT2 PL PR) mg base (N + 3) "_law_bent" (sp_bent N) := by
    intro N
    induction N with
    | zero => exact (Cal.none T.h__law_bent fun ds M Q E h => by obtain ⟨_, _, _, _, _, _, _, h, _⟩ := h; omega).mono (by decide)
    | succ N ih => exact c__law_bent (k := N + 3) T (u1.mono (by omega)) ih (u2.mono (by omega)) (u3.mono (by omega)) (rd_bent N)
  have u4 := c__law_is_int (P := P) (w := w) (base := base) (k := 0) (TT := TT2 PL PR) T rd_int
  have u5 := c__law_signs (P := P) (w := w) (base := base) (k := 0) (TT := TT2 PL PR) T rd_signs
  have u6 := c__law_is_text (k := 1) T u5 rd_ltext
  have u7 := c__law_is_row (k := 2) T u6 rd_lrow
  have u8 := c__law_is_changed (k := 3) T (u4.mono (by decide)) u7 rd_ischg
  have u9 := c__law_rows (k := 2) T (u1.mono (by decide)) u2 rd_rows
  have u10 := (c__law_edited (k := 2) T (u1.mono (by decide)) u2 rd_edited).weak wk_edited
  have u11 := (c__law_common (P := P) (w := w) (base := base) (k := 0) (TT := TT2 PL PR) T rd_lcommon).weak wk_lcommon
  have u12 := (c__law_merged (k := 1) T u11 rd_lmerged).weak wk_lmerged
  have u13 := (c__law_blocks (k := 1) T u11 rd_lblocks).weak wk_lblocks
  have v1 := c__law_right (k := 11) T XK (u9.mono (by decide)) (u1.mono (by decide)) (u10.mono (by decide)) (t7.mono (by decide)) (u11.mono (by decide)) (t9.mono (by decide)) (u13.mono (by decide)) (t12.mono (by decide)) (u3.mono (by decide)) (be 8) (u8.mono (by decide)) (t16.mono (by decide)) (u12.mono (by decide)) tR (by simp) (by
    intro p hp e
    simp at hp
    rcases hp with rfl | rfl
    · exact absurd e ne
    · rfl) hR rd_right
  have v2 := c__law_places (P := P) (w := w) (base := base) (k := 0) (TT := TT2 PL PR) T rd_places
  have v3 := c__law_pot (P := P) (w := w) (base := base) (k := 0) (TT := TT2 PL PR) T rd_pot
  exact c_law (k := 14) T XK (v2.mono (by decide)) (v3.mono (by decide)) v1 (t7.mono (by decide)) (t9.mono (by decide)) (t12.mono (by decide)) (t16.mono (by decide)) tL (by simp) (by
    intro p hp e
    simp at hp
    rcases hp with rfl | rfl
    · rfl
    · exact absurd e.symm ne) lk hcd fun ds M Q h => ⟨(rd_law "" (fun _ _ _ => True) (fun _ _ _ => True) (fun _ _ _ => True) (fun _ _ _ => True) (fun _ _ _ => True) (fun _ _ _ => True) ds M Q h).1, fun lq P0 P1 P2 P3 P4 P5 => (rd_law lq P0 P1 P2 P3 P4 P5 ds M Q h).2⟩
end
/-! ### the exceptions -/
theorem isC_same (x : Str) : isC x x = true := by unfold isC; simp
section
variable {K : PySem.W.Frag} {h : Heap} {mg : Str → Option Value}
/-- what the written part says of a class of exceptions -/
structure XCls (K : PySem.W.Frag) (x : Str) (C : Addr) : Prop where
  a : PySem.W.nsIn K mainGlobals x = some (some (.ref C))
  o : OexC K C
  i : ∃ fI : Addr, PySem.W.findIn K (.ref C) "__init__" = some (some (.ref fI)) ∧ PySem.W.typeIn K (.ref fI) = some (.type "function") ∧ ∃ fd : FuncData, L2.Fun K "__init__" "TextError.__init__" st_init fI fd ∧ Binds K fd ["self", "value"] []
  nv : PySem.W.findIn K (.ref C) "value" = some none
  xf : XfC K C
  xc : ExcC K C
theorem exc_of {P : Program} {w : World} {base : Heap} (X : K.In h) (G : h.Ns mainGlobals mg) {x : Str} {C : Addr} (c : XCls K x C) (mv : PySem.W.nsIn K mainGlobals "ValueError" = some none) (vV : PySem.W.findCls K (.type "ValueError") (.type "type") "__init__" = some (.val (.builtin "ValueError.__init__"))) : ExC P w K mg base x := by
  obtain ⟨fI, i1, i2, fd, F, b⟩ := c.i
  exact ⟨C, fI, fd, PySem.W.mg_of X G c.a, c.a, c.o, i1, i2, c.nv, ok_init F (PySem.W.mg_none_of X G mv) vV, b⟩
theorem kns_of (X : K.In h) (G : h.Ns mainGlobals mg) {CS CT : Addr} (aS : PySem.W.nsIn K mainGlobals "TextError" = some (some (.ref CS))) (cT : XCls K "BadRow" CT)
    (s1 : PySem.W.exmOne K (.ref CT) (.ref CS) = some true) (k1 : PySem.W.kitOne K (.ref CT) (.ref CT) = some true) : Kns K mg CS CT := by
  have at_ : ∀ {x : Str} {C D : Addr}, XCls K x D → PySem.W.nsIn K mainGlobals x = some (some (.ref C)) → C = D := fun c e => by
    have := e.symm.trans c.a
    cases this
    rfl
  refine ⟨PySem.W.mg_of X G aS, PySem.W.mg_of X G cT.a, ⟨?_⟩, ?_, ?_⟩
  · rintro x C rfl e
    obtain rfl := at_ cT e; exact ⟨cT.xf, cT.xc, cT.nv⟩
  · rintro x C rfl e
    obtain rfl := at_ cT e; exact s1
  · rintro x C rfl e
    obtain rfl := at_ cT e; rw [isC_same]; exact k1
theorem cls_mk {x : Str} {C fI : Addr} {nm q N bs bm sn sub ab col dd k0 k1 k2 k3 k5} {oc : Value} {od : Option Addr} {kV doc pm : Value} {an : Option Addr} {cd ct : Value} {osl : Array (Option Value)}
    (a : PySem.W.nsIn K mainGlobals x = some (some (.ref C))) (l : K.lookup C = some (excClassObj nm q C N bs bm true sn sub ab col dd k0 k1 k2 k3 k5 "ValueError.__new__")) (r : PySem.HandSPX.refsVE bm = true)
    (sa : PySem.W.findIn K (.ref C) "__setattr__" = some (some (.builtin "object.__setattr__"))) (ex : PySem.W.subIn K (.ref C) (.type "BaseException") = some true) (ty : PySem.W.typeIn K (.ref C) = some (.type "type")) (kC : PySem.W.keepIn K (.ref C) = true)
    (i1 : PySem.W.findIn K (.ref C) "__init__" = some (some (.ref fI))) (i2 : PySem.W.typeIn K (.ref fI) = some (.type "function")) (lI : K.lookup fI = some ⟨oc, od, .func (PySem.W.fnOf "__init__" "TextError.__init__" (L2.defArgs st_init) (L2.defBody st_init) (L2.defScope st_init) .none kV doc pm an cd ct), osl⟩)
    (cI : PySem.W.codeIn K cd "TextError.__init__" = true) (kI : PySem.W.keepIn K (.ref fI) = true) (nv : PySem.W.findIn K (.ref C) "value" = some none)
    (ga : PySem.W.findIn K (.ref C) "__getattribute__" = some (some (.builtin "BaseException.__getattribute__"))) (gg : PySem.W.findIn K (.ref C) "__getattr__" = some none) (hd : PySem.W.hasDictIn K C = true)
    (ha : PySem.W.findIn K (.ref C) "__class__" = some (some (.builtin "object.__class__"))) (hn : PySem.W.specialIn K (.builtin "object.__class__") "__get__" = some (some (.builtin "getset_descriptor.__get__"))) (ht : PySem.W.takesIn K (.builtin "object.__class__") = some true) (hm : PySem.W.mroIn K C (.type "object") = some true) : XCls K x C := by
  refine ⟨a, ⟨⟨nm, q, N, bs, bm, sn, sub, ab, col, dd, k0, k1, k2, k3, k5, l, r⟩, sa, ex, ty, kC⟩, ⟨fI, i1, i2, _, ⟨⟨oc, od, kV, doc, pm, an, cd, ct, osl, rfl, lI, cI⟩, kI⟩, .all fun us hl => match us, hl with | [_, _], _ => rfl⟩, nv, ⟨ga, gg, ex, hd⟩, ⟨ga, gg, ex, hd, ha, hn, ht, hm⟩⟩
/-- the heap without its tables -/
def noTab (H : L2.Hp) : L2.Hp := fun b => match H b with
  | some (.tbl _) => none
  | o => o
theorem noTab_sub (H : L2.Hp) : L2.Same (noTab H) H := by
  intro b o e
  unfold noTab at e
  split at e
  · cases e
  · exact e
theorem noTab_nt (H : L2.Hp) (b : Addr) (ps : Array Value) : noTab H b ≠ some (.tbl ps) := by
  intro e
  unfold noTab at e
  split at e
  · cases e
  · rename_i h
    exact h ps e
theorem noTab_keep {H : L2.Hp} {b : Addr} {o : L2.HO} (h : H b = some o) (n : ∀ ps, o ≠ .tbl ps) : noTab H b = some o := by
  unfold noTab
  split
  · rename_i ps e
    rw [h] at e
    cases e
    exact absurd rfl (n ps)
  · exact h
theorem due {H : L2.Hp} {a PL PR : Addr} {ns : List Int} (hl : ns.length ≤ 63) (hS : L2.SqL K H a (ns.map L2.V.int)) (h1 : H PL = some (.tbl #[])) (h2 : H PR = some (.tbl #[])) : lift K (TT2 PL PR) (quiet sp_law) [.ref a] H (fun v _ => v = .bl true) fun _ _ _ => False := by
  have hS' : L2.SqL K (noTab H) a (ns.map L2.V.int) := by
    rcases hS with (e | ⟨o, e⟩) | e
    · exact .inl (.inl (noTab_keep e fun ps z => by cases z))
    · exact .inl (.inr ⟨o, noTab_keep e fun ps z => by cases z⟩)
    · exact .inr e
  refine ⟨[.slst (ns.map D.int)], noTab H, fun _ => none, fun d _ => d = .bl true, fun _ _ _ => False, .cons (.slst hS' (of_ints ns)) .nil, ⟨noTab_sub H, (fun a m e => nomatch e), noTab_nt H⟩, ?_, ⟨ns, rfl, by omega, fun _ => rfl⟩, ?_, fun _ _ _ _ _ _ _ _ _ z => z.elim⟩
  · intro p hp
    simp at hp
    rcases hp with rfl | rfl
    · exact .nil h1
    · exact .nil h2
  · rintro v d F M H' s rp rfl
    cases rp
    rfl
/-- what the end asks of the written part -/
structure End90 (q : Program) (K : PySem.W.Frag) (mg : Str → Option Value) (fa : Addr) : Prop where
  law : mg "law" = some (.ref fa)
  txt : Txt K mg
  dL : Dfn K "law" st_law
  dR : Dfn K "_law_right" st__law_right
  tabs : ∃ cL PL cR PR : Addr, TabsOf q K [("law", cL, PL), ("_law_right", cR, PR)] ∧ PL ≠ PR
  exs : ∀ (P : Program) (w : World) (base : Heap), Exs P w K mg base
  kns : ∃ CS CT : Addr, Kns K mg CS CT
theorem walk {l : PySem.W.OpenLaw} {q : Program} {loose : List Str} {XP : (Str → Option Value) → Heap → Prop} {YP : World → Heap → Prop} {d : DefRec} {K : Params → PySem.W.Frag} (hn : l.most = some 63) (hdf : d.params.defaults = [])
    (hY : ∀ (w : World) (h : Heap), YP w h → (K w.params).In h)
    (F : ∀ (w : World) (mg : Str → Option Value) (fa : Addr) (h : Heap), (K w.params).In h → h.Ns mainGlobals mg → mg d.name = some (.ref fa) → End90 q (K w.params) mg fa) :
    PySem.W.WalkO q loose XP YP l.row.toRowW d [] (fun f vs => PySem.call f vs) := by
  refine gwalkT (n := 63) (k := 17) (x := "script") hn (by decide) hdf ⟨rfl, by decide, by decide⟩ hY ?_
  intro w mg fa h X G m
  have E := F w mg fa h X G m
  obtain ⟨cL, PL, cR, PR, tabs, ne⟩ := E.tabs
  obtain ⟨CS, CT, XK⟩ := E.kns
  obtain ⟨f, oc, od, kV, doc, pm, an, cd, ct, osl, a, lk, hcd, k⟩ := E.dL
  have e := E.law.symm.trans (PySem.W.mg_of X G a)
  cases e
  have tL := tabs ("law", cL, PL) (by simp)
  have tR := tabs ("_law_right", cR, PR) (by simp)
  obtain rfl := code_tab a lk tL.2.1
  have hR := hasL_of (ps := ["pot"]) X G E.dR tR.2.1 fun _ _ _ _ _ _ us hl => match us, hl with | [_], _ => rfl
  refine ⟨_, lift (K w.params) (TT2 PL PR) (quiet sp_law), PySem.W.fnOf "law" "law" (L2.defArgs st_law) (L2.defBody st_law) (L2.defScope st_law) .none kV doc pm an (.ref cL) ct, tabs, fun s v => .of_eq rfl, ?_, ?_⟩
  · intro H a ns hl hT hS
    exact due hl hS (hT ("law", cL, PL) (by simp)) (hT ("_law_right", cR, PR) (by simp))
  · intro base KB NB TB
    exact all_law E.txt (E.exs _ _ _) XK (TB ("law", cL, PL) (by simp)) (TB ("_law_right", cR, PR) (by simp)) ne hR lk hcd
end
end K90

set_option maxHeartbeats 8000000
/-! K90z: the end. -/
namespace K90
open PySem PySem.Spec L2 DL KB
open PyProof.Rows hiding St signs

theorem txt_mk {K : PySem.W.Frag} {h : Heap} {mg : Str → Option Value} (X : K.In h) (G : h.Ns mainGlobals mg) {t_CLASH : Tok} {t_KEEP : Tok} {t_MERGED : Tok} {t_MOST_PIECE : Tok} {t_MOST_ROW : Tok} {t_SIGNS : Tok} {t_TURN : Tok}
    (z_abs : PySem.W.nsIn K mainGlobals "abs" = some none)
    (z_all : PySem.W.nsIn K mainGlobals "all" = some none)
    (z_bool : PySem.W.nsIn K mainGlobals "bool" = some none)
    (z_dict : PySem.W.nsIn K mainGlobals "dict" = some none)
    (z_int : PySem.W.nsIn K mainGlobals "int" = some none)
    (z_isinstance : PySem.W.nsIn K mainGlobals "isinstance" = some none)
    (z_len : PySem.W.nsIn K mainGlobals "len" = some none)
    (z_list : PySem.W.nsIn K mainGlobals "list" = some none)
    (z_max : PySem.W.nsIn K mainGlobals "max" = some none)
    (z_min : PySem.W.nsIn K mainGlobals "min" = some none)
    (z_range : PySem.W.nsIn K mainGlobals "range" = some none)
    (z_repr : PySem.W.nsIn K mainGlobals "repr" = some none)
    (z_sorted : PySem.W.nsIn K mainGlobals "sorted" = some none)
    (z_str : PySem.W.nsIn K mainGlobals "str" = some none)
    (z_sum : PySem.W.nsIn K mainGlobals "sum" = some none)
    (z_tuple : PySem.W.nsIn K mainGlobals "tuple" = some none)
    (z_zip : PySem.W.nsIn K mainGlobals "zip" = some none)
    (a_CLASH : PySem.W.nsIn K mainGlobals "CLASH" = some (some (.str "clash" t_CLASH)))
    (a_KEEP : PySem.W.nsIn K mainGlobals "KEEP" = some (some (.str "keep" t_KEEP)))
    (a_MERGED : PySem.W.nsIn K mainGlobals "MERGED" = some (some (.str "merged" t_MERGED)))
    (a_MOST_PIECE : PySem.W.nsIn K mainGlobals "MOST_PIECE" = some (some (.int 100 t_MOST_PIECE)))
    (a_MOST_ROW : PySem.W.nsIn K mainGlobals "MOST_ROW" = some (some (.int 40 t_MOST_ROW)))
    (a_SIGNS : PySem.W.nsIn K mainGlobals "SIGNS" = some (some (.str "\x0a ,-.0123456789:;=abcdefghijklmnopqrstuvwxyz" t_SIGNS)))
    (a_TURN : PySem.W.nsIn K mainGlobals "TURN" = some (some (.str "turn" t_TURN)))
    (d_is_tuple : Dfn K "is_tuple" st_is_tuple)
    (d_is_text : DfnT K "is_text" st_is_text)
    (d_check_row : Dfn K "check_row" st_check_row)
    (d_longest_from : Dfn K "longest_from" st_longest_from)
    (d_pairs_of : Dfn K "pairs_of" st_pairs_of)
    (d_fits : Dfn K "fits" st_fits)
    (d_common : Dfn K "common" st_common)
    (d_blocks_of : Dfn K "blocks_of" st_blocks_of)
    (d_changes : Dfn K "changes" st_changes)
    (d_changed : Dfn K "changed" st_changed)
    (d_is_block : Dfn K "is_block" st_is_block)
    (d_is_changes : Dfn K "is_changes" st_is_changes)
    (d_stable_places : Dfn K "stable_places" st_stable_places)
    (d_taken_of : Dfn K "taken_of" st_taken_of)
    (d_merged_rows : Dfn K "merged_rows" st_merged_rows)
    (d_merged : Dfn K "merged" st_merged)
    (d__law_pot : Dfn K "_law_pot" st__law_pot)
    (d__law_take : Dfn K "_law_take" st__law_take)
    (d__law_of : Dfn K "_law_of" st__law_of)
    (d__law_places : Dfn K "_law_places" st__law_places)
    (d__law_heard : Dfn K "_law_heard" st__law_heard)
    (d__law_odd : Dfn K "_law_odd" st__law_odd)
    (d__law_is_int : Dfn K "_law_is_int" st__law_is_int)
    (d__law_bent : Dfn K "_law_bent" st__law_bent)
    (d__law_signs : Dfn K "_law_signs" st__law_signs)
    (d__law_is_text : Dfn K "_law_is_text" st__law_is_text)
    (d__law_rows : Dfn K "_law_rows" st__law_rows)
    (d__law_edited : Dfn K "_law_edited" st__law_edited)
    (d__law_common : Dfn K "_law_common" st__law_common)
    (d__law_merged : Dfn K "_law_merged" st__law_merged)
    (d__law_blocks : Dfn K "_law_blocks" st__law_blocks)
    (d__law_is_changed : Dfn K "_law_is_changed" st__law_is_changed)
    (d__law_is_row : Dfn K "_law_is_row" st__law_is_row)
    (d__law_right : Dfn K "_law_right" st__law_right) : Txt K mg where
  m_abs := PySem.W.mg_none_of X G z_abs
  m_all := PySem.W.mg_none_of X G z_all
  m_bool := PySem.W.mg_none_of X G z_bool
  m_dict := PySem.W.mg_none_of X G z_dict
  m_int := PySem.W.mg_none_of X G z_int
  m_isinstance := PySem.W.mg_none_of X G z_isinstance
  m_len := PySem.W.mg_none_of X G z_len
  m_list := PySem.W.mg_none_of X G z_list
  m_max := PySem.W.mg_none_of X G z_max
  m_min := PySem.W.mg_none_of X G z_min
  m_range := PySem.W.mg_none_of X G z_range
  m_repr := PySem.W.mg_none_of X G z_repr
  m_sorted := PySem.W.mg_none_of X G z_sorted
  m_str := PySem.W.mg_none_of X G z_str
  m_sum := PySem.W.mg_none_of X G z_sum
  m_tuple := PySem.W.mg_none_of X G z_tuple
  m_zip := PySem.W.mg_none_of X G z_zip
  g_CLASH := glob_str X G a_CLASH
  g_KEEP := glob_str X G a_KEEP
  g_MERGED := glob_str X G a_MERGED
  g_MOST_PIECE := glob_int X G a_MOST_PIECE
  g_MOST_ROW := glob_int X G a_MOST_ROW
  g_SIGNS := glob_str X G a_SIGNS
  g_TURN := glob_str X G a_TURN
  h_is_tuple := has_of X G d_is_tuple fun _ _ _ _ _ _ us hl => match us, hl with | [_, _, _], _ => rfl
  h_is_text := hasT_of X G d_is_text fun _ _ _ _ _ _ _ us its hl hi => match us, hl, its, hi with | [_, _], _, [_], _ => ⟨_, rfl, rfl⟩
  h_check_row := has_of X G d_check_row fun _ _ _ _ _ _ us hl => match us, hl with | [_], _ => rfl
  h_longest_from := has_of X G d_longest_from fun _ _ _ _ _ _ us hl => match us, hl with | [_, _], _ => rfl
  h_pairs_of := has_of X G d_pairs_of fun _ _ _ _ _ _ us hl => match us, hl with | [_, _], _ => rfl
  h_fits := has_of X G d_fits fun _ _ _ _ _ _ us hl => match us, hl with | [_, _, _, _, _, _], _ => rfl
  h_common := has_of X G d_common fun _ _ _ _ _ _ us hl => match us, hl with | [_, _], _ => rfl
  h_blocks_of := has_of X G d_blocks_of fun _ _ _ _ _ _ us hl => match us, hl with | [_, _], _ => rfl
  h_changes := has_of X G d_changes fun _ _ _ _ _ _ us hl => match us, hl with | [_, _], _ => rfl
  h_changed := has_of X G d_changed fun _ _ _ _ _ _ us hl => match us, hl with | [_, _], _ => rfl
  h_is_block := has_of X G d_is_block fun _ _ _ _ _ _ us hl => match us, hl with | [_], _ => rfl
  h_is_changes := has_of X G d_is_changes fun _ _ _ _ _ _ us hl => match us, hl with | [_], _ => rfl
  h_stable_places := has_of X G d_stable_places fun _ _ _ _ _ _ us hl => match us, hl with | [_, _, _], _ => rfl
  h_taken_of := has_of X G d_taken_of fun _ _ _ _ _ _ us hl => match us, hl with | [_], _ => rfl
  h_merged_rows := has_of X G d_merged_rows fun _ _ _ _ _ _ us hl => match us, hl with | [_, _, _], _ => rfl
  h_merged := has_of X G d_merged fun _ _ _ _ _ _ us hl => match us, hl with | [_, _, _], _ => rfl
  h__law_pot := has_of X G d__law_pot fun _ _ _ _ _ _ us hl => match us, hl with | [_, _], _ => rfl
  h__law_take := has_of X G d__law_take fun _ _ _ _ _ _ us hl => match us, hl with | [_, _], _ => rfl
  h__law_of := has_of X G d__law_of fun _ _ _ _ _ _ us hl => match us, hl with | [_, _], _ => rfl
  h__law_places := has_of X G d__law_places fun _ _ _ _ _ _ us hl => match us, hl with | [_, _], _ => rfl
  h__law_heard := has_of X G d__law_heard fun _ _ _ _ _ _ us hl => match us, hl with | [_], _ => rfl
  h__law_odd := has_of X G d__law_odd fun _ _ _ _ _ _ us hl => match us, hl with | [_], _ => rfl
  h__law_is_int := has_of X G d__law_is_int fun _ _ _ _ _ _ us hl => match us, hl with | [_, _, _], _ => rfl
  h__law_bent := has_of X G d__law_bent fun _ _ _ _ _ _ us hl => match us, hl with | [_, _], _ => rfl
  h__law_signs := has_of X G d__law_signs fun _ _ _ _ _ _ us hl => match us, hl with | [], _ => rfl
  h__law_is_text := has_of X G d__law_is_text fun _ _ _ _ _ _ us hl => match us, hl with | [_], _ => rfl
  h__law_rows := has_of X G d__law_rows fun _ _ _ _ _ _ us hl => match us, hl with | [_, _, _], _ => rfl
  h__law_edited := has_of X G d__law_edited fun _ _ _ _ _ _ us hl => match us, hl with | [_, _], _ => rfl
  h__law_common := has_of X G d__law_common fun _ _ _ _ _ _ us hl => match us, hl with | [_, _], _ => rfl
  h__law_merged := has_of X G d__law_merged fun _ _ _ _ _ _ us hl => match us, hl with | [_, _, _], _ => rfl
  h__law_blocks := has_of X G d__law_blocks fun _ _ _ _ _ _ us hl => match us, hl with | [_, _], _ => rfl
  h__law_is_changed := has_of X G d__law_is_changed fun _ _ _ _ _ _ us hl => match us, hl with | [_, _], _ => rfl
  h__law_is_row := has_of X G d__law_is_row fun _ _ _ _ _ _ us hl => match us, hl with | [_], _ => rfl
  h__law_right := has_of X G d__law_right fun _ _ _ _ _ _ us hl => match us, hl with | [_], _ => rfl
section
variable {K : PySem.W.Frag} {x : Str} {st : Stmt} {f c PP : Addr} {oc oc2 : Value} {od od2 : Option Addr} {dV kV doc pm : Value} {an : Option Addr} {ct : Value} {osl osl2 : Array (Option Value)} {vs : Array Value}
theorem tab_mk (a : PySem.W.nsIn K mainGlobals x = some (some (.ref f))) (l : K.lookup f = some ⟨oc, od, .func (PySem.W.fnOf x x (L2.defArgs st) (L2.defBody st) (L2.defScope st) dV kV doc pm an (.ref c) ct), osl⟩) (l2 : K.lookup c = some ⟨oc2, od2, .fields vs, osl2⟩) (v : (vs[11]? : Option Value) = some (.ref PP)) : PySem.W.tabIn K x = some (c, PP) := by
  unfold PySem.W.tabIn
  rw [a]
  simp only [l]
  show (match K.lookup c with | some ⟨_, _, .fields vs, _⟩ => _ | _ => none) = _
  rw [l2]
  simp only [v]
theorem tabs_mk {q : Program} {x1 x2 : Str} {c1 P1 c2 P2 : Addr} (f1 : ((recsOf q).find? fun e => e.name == x1).isSome = true) (t1 : PySem.W.tabIn K x1 = some (c1, P1)) (n1 : K.lookup P1 = none) (f2 : ((recsOf q).find? fun e => e.name == x2).isSome = true) (t2 : PySem.W.tabIn K x2 = some (c2, P2)) (n2 : K.lookup P2 = none) :
    TabsOf q K [(x1, c1, P1), (x2, c2, P2)] := by
  intro c hc
  simp at hc
  rcases hc with rfl | rfl
  · exact ⟨f1, t1, n1⟩
  · exact ⟨f2, t2, n2⟩
end
end K90
open PySem PySem.W PyProof.Rows
set_option maxRecDepth 100000 in
set_option maxHeartbeats 0 in
theorem PySem.Challenge.cw_eithermended_k90_whole_rows_edited_twice_holds : PySem.Challenge.rw_eithermended_k90_whole_rows_edited_twice.Holds := by
  w_on; o_law; k_head; (case hw => w_witness2)
  k_fill
  refine K90.walk (l := PySem.Challenge.rw_eithermended_k90_whole_rows_edited_twice) rfl rfl (fun w h Y => PySem.W.km_in_of Y) ?F
  case F =>
    intro w mg fa h KX G hmg
    refine ⟨hmg, ?TX, ?DL, ?DR, ?TB, ?EX, ?KN⟩
    (case DL => (refine' DL.dfn_mk ?a ?l ?c ?k; (case a => k_is); (case l => k_is); (case c => k_is); (case k => k_is)))
    (case DR => (refine' DL.dfn_mk ?a ?l ?c ?k; (case a => k_is); (case l => k_is); (case c => k_is); (case k => k_is)))
    (case TX =>
      refine' K90.txt_mk KX G ?z_abs ?z_all ?z_bool ?z_dict ?z_int ?z_isinstance ?z_len ?z_list ?z_max ?z_min ?z_range ?z_repr ?z_sorted ?z_str ?z_sum ?z_tuple ?z_zip ?a_CLASH ?a_KEEP ?a_MERGED ?a_MOST_PIECE ?a_MOST_ROW ?a_SIGNS ?a_TURN ?d_is_tuple ?d_is_text ?d_check_row ?d_longest_from ?d_pairs_of ?d_fits ?d_common ?d_blocks_of ?d_changes ?d_changed ?d_is_block ?d_is_changes ?d_stable_places ?d_taken_of ?d_merged_rows ?d_merged ?d__law_pot ?d__law_take ?d__law_of ?d__law_places ?d__law_heard ?d__law_odd ?d__law_is_int ?d__law_bent ?d__law_signs ?d__law_is_text ?d__law_rows ?d__law_edited ?d__law_common ?d__law_merged ?d__law_blocks ?d__law_is_changed ?d__law_is_row ?d__law_right
      (case z_abs => k_is)
      (case z_all => k_is)
      (case z_bool => k_is)
      (case z_dict => k_is)
      (case z_int => k_is)
      (case z_isinstance => k_is)
      (case z_len => k_is)
      (case z_list => k_is)
      (case z_max => k_is)
      (case z_min => k_is)
      (case z_range => k_is)
      (case z_repr => k_is)
      (case z_sorted => k_is)
      (case z_str => k_is)
      (case z_sum => k_is)
      (case z_tuple => k_is)
      (case z_zip => k_is)
      (case a_CLASH => k_is)
      (case a_KEEP => k_is)
      (case a_MERGED => k_is)
      (case a_MOST_PIECE => k_is)
      (case a_MOST_ROW => k_is)
      (case a_SIGNS => k_is)
      (case a_TURN => k_is)
      (case d_is_tuple => (refine' DL.dfn_mk ?a ?l ?c ?k; (case a => k_is); (case l => k_is); (case c => k_is); (case k => k_is)))
      (case d_is_text => (refine' DL.dfnT_mk ?a ?l ?c ?k ?t; (case a => k_is); (case l => k_is); (case c => k_is); (case k => k_is); (case t => k_is)))
      (case d_check_row => (refine' DL.dfn_mk ?a ?l ?c ?k; (case a => k_is); (case l => k_is); (case c => k_is); (case k => k_is)))
      (case d_longest_from => (refine' DL.dfn_mk ?a ?l ?c ?k; (case a => k_is); (case l => k_is); (case c => k_is); (case k => k_is)))
      (case d_pairs_of => (refine' DL.dfn_mk ?a ?l ?c ?k; (case a => k_is); (case l => k_is); (case c => k_is); (case k => k_is)))
      (case d_fits => (refine' DL.dfn_mk ?a ?l ?c ?k; (case a => k_is); (case l => k_is); (case c => k_is); (case k => k_is)))
      (case d_common => (refine' DL.dfn_mk ?a ?l ?c ?k; (case a => k_is); (case l => k_is); (case c => k_is); (case k => k_is)))
      (case d_blocks_of => (refine' DL.dfn_mk ?a ?l ?c ?k; (case a => k_is); (case l => k_is); (case c => k_is); (case k => k_is)))
      (case d_changes => (refine' DL.dfn_mk ?a ?l ?c ?k; (case a => k_is); (case l => k_is); (case c => k_is); (case k => k_is)))
      (case d_changed => (refine' DL.dfn_mk ?a ?l ?c ?k; (case a => k_is); (case l => k_is); (case c => k_is); (case k => k_is)))
      (case d_is_block => (refine' DL.dfn_mk ?a ?l ?c ?k; (case a => k_is); (case l => k_is); (case c => k_is); (case k => k_is)))
      (case d_is_changes => (refine' DL.dfn_mk ?a ?l ?c ?k; (case a => k_is); (case l => k_is); (case c => k_is); (case k => k_is)))
      (case d_stable_places => (refine' DL.dfn_mk ?a ?l ?c ?k; (case a => k_is); (case l => k_is); (case c => k_is); (case k => k_is)))
      (case d_taken_of => (refine' DL.dfn_mk ?a ?l ?c ?k; (case a => k_is); (case l => k_is); (case c => k_is); (case k => k_is)))
      (case d_merged_rows => (refine' DL.dfn_mk ?a ?l ?c ?k; (case a => k_is); (case l => k_is); (case c => k_is); (case k => k_is)))
      (case d_merged => (refine' DL.dfn_mk ?a ?l ?c ?k; (case a => k_is); (case l => k_is); (case c => k_is); (case k => k_is)))
      (case d__law_pot => (refine' DL.dfn_mk ?a ?l ?c ?k; (case a => k_is); (case l => k_is); (case c => k_is); (case k => k_is)))
      (case d__law_take => (refine' DL.dfn_mk ?a ?l ?c ?k; (case a => k_is); (case l => k_is); (case c => k_is); (case k => k_is)))
      (case d__law_of => (refine' DL.dfn_mk ?a ?l ?c ?k; (case a => k_is); (case l => k_is); (case c => k_is); (case k => k_is)))
      (case d__law_places => (refine' DL.dfn_mk ?a ?l ?c ?k; (case a => k_is); (case l => k_is); (case c => k_is); (case k => k_is)))
      (case d__law_heard => (refine' DL.dfn_mk ?a ?l ?c ?k; (case a => k_is); (case l => k_is); (case c => k_is); (case k => k_is)))
      (case d__law_odd => (refine' DL.dfn_mk ?a ?l ?c ?k; (case a => k_is); (case l => k_is); (case c => k_is); (case k => k_is)))
      (case d__law_is_int => (refine' DL.dfn_mk ?a ?l ?c ?k; (case a => k_is); (case l => k_is); (case c => k_is); (case k => k_is)))
      (case d__law_bent => (refine' DL.dfn_mk ?a ?l ?c ?k; (case a => k_is); (case l => k_is); (case c => k_is); (case k => k_is)))
      (case d__law_signs => (refine' DL.dfn_mk ?a ?l ?c ?k; (case a => k_is); (case l => k_is); (case c => k_is); (case k => k_is)))
      (case d__law_is_text => (refine' DL.dfn_mk ?a ?l ?c ?k; (case a => k_is); (case l => k_is); (case c => k_is); (case k => k_is)))
      (case d__law_rows => (refine' DL.dfn_mk ?a ?l ?c ?k; (case a => k_is); (case l => k_is); (case c => k_is); (case k => k_is)))
      (case d__law_edited => (refine' DL.dfn_mk ?a ?l ?c ?k; (case a => k_is); (case l => k_is); (case c => k_is); (case k => k_is)))
      (case d__law_common => (refine' DL.dfn_mk ?a ?l ?c ?k; (case a => k_is); (case l => k_is); (case c => k_is); (case k => k_is)))
      (case d__law_merged => (refine' DL.dfn_mk ?a ?l ?c ?k; (case a => k_is); (case l => k_is); (case c => k_is); (case k => k_is)))
      (case d__law_blocks => (refine' DL.dfn_mk ?a ?l ?c ?k; (case a => k_is); (case l => k_is); (case c => k_is); (case k => k_is)))
      (case d__law_is_changed => (refine' DL.dfn_mk ?a ?l ?c ?k; (case a => k_is); (case l => k_is); (case c => k_is); (case k => k_is)))
      (case d__law_is_row => (refine' DL.dfn_mk ?a ?l ?c ?k; (case a => k_is); (case l => k_is); (case c => k_is); (case k => k_is)))
      (case d__law_right => (refine' DL.dfn_mk ?a ?l ?c ?k; (case a => k_is); (case l => k_is); (case c => k_is); (case k => k_is))))
    (case TB =>
      refine' ⟨_, _, _, _, K90.tabs_mk ?f1 (K90.tab_mk (st := K90.st_law) ?a1 ?l1 ?m1 ?v1) ?n1 ?f2 (K90.tab_mk (st := K90.st__law_right) ?a2 ?l2 ?m2 ?v2) ?n2, ?ne⟩
      (case a1 => k_is)
      (case l1 => k_is)
      (case m1 => k_is)
      (case v1 => rfl)
      (case a2 => k_is)
      (case l2 => k_is)
      (case m2 => k_is)
      (case v2 => rfl)
      (case f1 => rfl)
      (case f2 => rfl)
      (case n1 => kernel_rfl)
      (case n2 => kernel_rfl)
      (case ne => decide))
    (case EX =>
      intro P0 w0 base0
      refine' ⟨K90.exc_of KX G ?c1 ?mv ?vV⟩
      (case c1 => (refine' K90.cls_mk ?a ?l ?r ?sa ?ex ?ty ?kC ?i1 ?i2 ?lI ?cI ?kI ?nv ?ga ?gg ?hd ?ha ?hn ?ht ?hm; (case a => k_is); (case l => k_is); (case r => rfl); (case sa => k_is); (case ex => k_is); (case ty => k_is); (case kC => k_is); (case i1 => k_is); (case i2 => k_is); (case lI => k_is); (case cI => k_is); (case kI => k_is); (case nv => k_is); (case ga => k_is); (case gg => k_is); (case hd => k_is); (case ha => k_is); (case hn => k_is); (case ht => k_is); (case hm => k_is)))
      (case mv => k_is)
      (case vV => k_is))
    (case KN =>
      refine' ⟨_, _, K90.kns_of KX G ?aS ?cT (PySem.W.exm_ref ?s1 ?s2 ?s3 ?s4) ?k1⟩
      (case aS => k_is)
      (case cT => (refine' K90.cls_mk ?a ?l ?r ?sa ?ex ?ty ?kC ?i1 ?i2 ?lI ?cI ?kI ?nv ?ga ?gg ?hd ?ha ?hn ?ht ?hm; (case a => k_is); (case l => k_is); (case r => rfl); (case sa => k_is); (case ex => k_is); (case ty => k_is); (case kC => k_is); (case i1 => k_is); (case i2 => k_is); (case lI => k_is); (case cI => k_is); (case kI => k_is); (case nv => k_is); (case ga => k_is); (case gg => k_is); (case hd => k_is); (case ha => k_is); (case hn => k_is); (case ht => k_is); (case hm => k_is)))
      (case s1 => k_is)
      (case s2 => k_is)
      (case s3 => k_is)
      (case s4 => k_is)
      (case k1 => kit_is))

