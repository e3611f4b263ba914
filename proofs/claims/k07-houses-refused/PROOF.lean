import PyProof.Rows.All
import Wide.All
import OpenK.AllK
import Wide.FinOn
import HandS.ForMost
import HandS.ForExc
import HandS.IsInst
import HandS.Deep
import HandS.TupAny
import HandS.ExcCtx
import HandS.HotCalls
import HandS.Conv
import HandS.Flow
import HandS.ExcIs
import HandS.TryOnly
import PyProof.Rows.CountFlat
import HandS.Style
import HandS.Iter
import HandS.Text
import HandS.Dict
import HandS.Codes
import HandS.WordsDict
import HandS.TupSets
import HandS.DictComp
import HandS.Lambda
import HandS.New
import HandS.More
import HandS.SortKw
import KE.KSortKey
import HandS.EndTab
import KE.KNestM
import HandS.Sort
import KE.KDictList
import HandS.Finally
import KE.KEqNest
import PySem.Challenge.RW_latehouse_k07_houses_refused
set_option Elab.async false
set_option linter.all false
set_option maxRecDepth 100000
set_option maxHeartbeats 4000000
/-! The data layer: what a Python value is worth as data, expressions and blocks whose worth is data. -/
namespace Dv
open PySem L2

/-! ### data in a heap -/
def keyD : Key → PyData
  | .inl i => .int i
  | .inr x => .str x
mutual
/-- the value v is the data d, in the heap H -/
inductive Dt (K : PySem.W.Frag) (H : Hp) : V → PyData → Prop
  | non : Dt K H .non .none
  | bl (b : Bool) : Dt K H (.bl b) (.bool b)
  | int (i : Int) : Dt K H (.int i) (.int i)
  | str (x : Str) : Dt K H (.str x) (.str x)
  | lst {a : Addr} {xs : List V} {ds : List PyData} : SqL K H a xs → DtA K H xs ds → Dt K H (.ref a) (.list ds)
  | tup {a : Addr} {xs : List V} {ds : List PyData} : Rd H a (.tup xs) → DtA K H xs ds → Dt K H (.ref a) (.tuple ds)
  | dic {a : Addr} {xs : List (Key × V)} {ds : List (PyData × PyData)} : H a = some (.dK xs) → DtK K H xs ds → Dt K H (.ref a) (.dict ds)
inductive DtA (K : PySem.W.Frag) (H : Hp) : List V → List PyData → Prop
  | nil : DtA K H [] []
  | cons {v : V} {vs : List V} {d : PyData} {ds : List PyData} : Dt K H v d → DtA K H vs ds → DtA K H (v :: vs) (d :: ds)
inductive DtK (K : PySem.W.Frag) (H : Hp) : List (Key × V) → List (PyData × PyData) → Prop
  | nil : DtK K H [] []
  | cons {k : Key} {v : V} {vs : List (Key × V)} {d : PyData} {ds : List (PyData × PyData)} : Dt K H v d → DtK K H vs ds → DtK K H ((k, v) :: vs) ((keyD k, d) :: ds)
end
theorem Rd.mono {H H' : Hp} {a : Addr} {u : HO} (r : Rd H a u) (s : Same H H') : Rd H' a u := by
  rcases r with r | ⟨o, r⟩
  · exact .inl (s _ _ r)
  · exact .inr ⟨o, s _ _ r⟩
theorem Dt.mono {K : PySem.W.Frag} {H H' : Hp} {v : V} {d : PyData} (h : Dt K H v d) (s : Same H H') : Dt K H' v d := by
  refine Dt.rec (motive_1 := fun v d _ => Dt K H' v d) (motive_2 := fun vs ds _ => DtA K H' vs ds) (motive_3 := fun vs ds _ => DtK K H' vs ds) ?_ ?_ ?_ ?_ ?_ ?_ ?_ ?_ ?_ ?_ ?_ h
  · exact .non
  · exact .bl
  · exact .int
  · exact .str
  · exact fun r _ i => .lst (s.seq r) i
  · exact fun r _ i => .tup (Rd.mono r s) i
  · exact fun r _ i => .dic (s _ _ r) i
  · exact .nil
  · exact fun _ _ i j => .cons i j
  · exact .nil
  · exact fun _ _ i j => .cons i j
theorem DtA.mono {K : PySem.W.Frag} {H H' : Hp} {vs : List V} {ds : List PyData} (h : DtA K H vs ds) (s : Same H H') : DtA K H' vs ds := by
  induction vs generalizing ds with
  | nil => cases h; exact .nil
  | cons v r ih =>
    cases h with
    | cons a b => exact .cons (a.mono s) (ih b)
theorem DtK.mono {K : PySem.W.Frag} {H H' : Hp} {vs : List (Key × V)} {ds : List (PyData × PyData)} (h : DtK K H vs ds) (s : Same H H') : DtK K H' vs ds := by
  induction vs generalizing ds with
  | nil => cases h; exact .nil
  | cons v r ih =>
    cases h with
    | cons a b => exact .cons (a.mono s) (ih b)
theorem DtA.len {K : PySem.W.Frag} {H : Hp} {vs : List V} {ds : List PyData} (h : DtA K H vs ds) : vs.length = ds.length := by
  induction vs generalizing ds with
  | nil => cases h; rfl
  | cons v r ih =>
    cases h with
    | cons a b => rw [List.length_cons, List.length_cons, ih b]
theorem DtA.get {K : PySem.W.Frag} {H : Hp} {vs : List V} {ds : List PyData} (h : DtA K H vs ds) {i : Nat} {d : PyData} (e : ds[i]? = some d) : ∃ v, vs[i]? = some v ∧ Dt K H v d := by
  induction vs generalizing ds i with
  | nil => cases h; simp at e
  | cons v r ih =>
    cases h with
    | cons a b =>
      cases i with
      | zero => simp at e; subst e; exact ⟨v, rfl, a⟩
      | succ i => simpa using ih b (i := i) (by simpa using e)
theorem DtA.getV {K : PySem.W.Frag} {H : Hp} {vs : List V} {ds : List PyData} (h : DtA K H vs ds) {i : Nat} {v : V} (e : vs[i]? = some v) : ∃ d, ds[i]? = some d ∧ Dt K H v d := by
  induction vs generalizing ds i with
  | nil => simp at e
  | cons w r ih =>
    cases h with
    | cons a b =>
      cases i with
      | zero => simp at e; subst e; exact ⟨_, rfl, a⟩
      | succ i => simpa using ih b (i := i) (by simpa using e)
theorem DtA.append {K : PySem.W.Frag} {H : Hp} {vs ws : List V} {ds es : List PyData} (h : DtA K H vs ds) (g : DtA K H ws es) : DtA K H (vs ++ ws) (ds ++ es) := by
  induction vs generalizing ds with
  | nil => cases h; exact g
  | cons v r ih =>
    cases h with
    | cons a b => exact .cons a (ih b)
theorem DtA.take {K : PySem.W.Frag} {H : Hp} {vs : List V} {ds : List PyData} (h : DtA K H vs ds) (n : Nat) : DtA K H (vs.take n) (ds.take n) := by
  induction vs generalizing ds n with
  | nil => cases h; simp; exact .nil
  | cons v r ih =>
    cases h with
    | cons a b =>
      cases n with
      | zero => exact .nil
      | succ n => exact .cons a (ih b n)
theorem DtA.drop {K : PySem.W.Frag} {H : Hp} {vs : List V} {ds : List PyData} (h : DtA K H vs ds) (n : Nat) : DtA K H (vs.drop n) (ds.drop n) := by
  induction vs generalizing ds n with
  | nil => cases h; simp; exact .nil
  | cons v r ih =>
    cases h with
    | cons a b =>
      cases n with
      | zero => exact .cons a b
      | succ n => simpa using ih b n
theorem DtA.snoc {K : PySem.W.Frag} {H : Hp} {vs : List V} {ds : List PyData} {v : V} {d : PyData} (h : DtA K H vs ds) (g : Dt K H v d) : DtA K H (vs ++ [v]) (ds ++ [d]) := h.append (.cons g .nil)
theorem DtA.ints {K : PySem.W.Frag} {H : Hp} (ns : List Int) : DtA K H (ns.map V.int) (ns.map PyData.int) := by
  induction ns with
  | nil => exact .nil
  | cons n r ih => exact .cons (.int n) ih
theorem DtA.strs {K : PySem.W.Frag} {H : Hp} (ns : List Str) : DtA K H (ns.map V.str) (ns.map PyData.str) := by
  induction ns with
  | nil => exact .nil
  | cons n r ih => exact .cons (.str n) ih
theorem DtA.ofInts {K : PySem.W.Frag} {H : Hp} {ns : List Int} {vs : List V} (h : DtA K H vs (ns.map PyData.int)) : vs = ns.map V.int := by
  induction ns generalizing vs with
  | nil => cases h; rfl
  | cons n r ih =>
    cases h with
    | cons a b => cases a; rw [ih b]; rfl
theorem DtA.ofStrs {K : PySem.W.Frag} {H : Hp} {ns : List Str} {vs : List V} (h : DtA K H vs (ns.map PyData.str)) : vs = ns.map V.str := by
  induction ns generalizing vs with
  | nil => cases h; rfl
  | cons n r ih =>
    cases h with
    | cons a b => cases a; rw [ih b]; rfl
/-- to the layer's own data, where no dict is within -/
theorem Dt.dp {K : PySem.W.Frag} {H : Hp} {v : V} {d : PyData} (h : Dt K H v d) : d.canLay0 = true → Dp K H v d := by
  refine Dt.rec (motive_1 := fun v d _ => d.canLay0 = true → Dp K H v d) (motive_2 := fun vs ds _ => PyData.canLayAll0 ds = true → DpAll K H vs ds) (motive_3 := fun vs ds _ => True) ?_ ?_ ?_ ?_ ?_ ?_ ?_ ?_ ?_ ?_ ?_ h
  · exact fun _ => .non
  · exact fun b _ => .bl b
  · exact fun b _ => .int b
  · exact fun b _ => .str b
  · intro a xs ds r _ i c
    exact .lst r (i (by simpa [PyData.canLay0] using c))
  · intro a xs ds r _ i c
    exact .tup (.inl r) (i (by simpa [PyData.canLay0] using c))
  · intro a xs ds r _ i c
    simp [PyData.canLay0] at c
  · exact fun _ => .nil
  · intro v vs d ds _ _ i j c
    simp only [PyData.canLayAll0, Bool.and_eq_true] at c
    exact .cons (i c.1) (j c.2)
  · trivial
  · intros; trivial
theorem Dt.dpS {K : PySem.W.Frag} {H : Hp} {v : V} {d : PyData} (h : Dt K H v d) (c : SeqAt.shaped d = true) : Dp K H v d := h.dp (SeqAt.canLay_of_shaped c)

/-! ### growth: H the heap, Hd its still part (data), which grows alone -/
structure Grw (H Hd H' Hd' : Hp) : Prop where
  hh : Same H H'
  dd : Same Hd Hd'
  dh : Same Hd' H'
  fr : ∀ a, H a ≠ none → Hd a = none → Hd' a = none
theorem Grw.refl {H Hd : Hp} (s : Same Hd H) : Grw H Hd H Hd := ⟨Same.refl _, Same.refl _, s, fun _ _ h => h⟩
theorem some_of {H : Hp} {a : Addr} (h : H a ≠ none) : ∃ o, H a = some o := by
  cases e : H a with
  | none => exact absurd e h
  | some o => exact ⟨o, rfl⟩
theorem Same.ne {H H' : Hp} (s : Same H H') {a : Addr} (h : H a ≠ none) : H' a ≠ none := by
  obtain ⟨o, e⟩ := some_of h
  rw [s a o e]
  exact fun z => nomatch z
theorem Grw.trans {H Hd H1 Hd1 H2 Hd2 : Hp} (a : Grw H Hd H1 Hd1) (b : Grw H1 Hd1 H2 Hd2) : Grw H Hd H2 Hd2 :=
  ⟨a.hh.trans b.hh, a.dd.trans b.dd, b.dh, fun x h1 h2 => b.fr x (Same.ne a.hh h1) (a.fr x h1 h2)⟩
theorem Same.upd {H : Hp} {p : Addr} {o : HO} (h : H p = none) : Same H (upd H p o) := fun b u e => by
  rw [upd_ne (ne_of_none e h)]; exact e
theorem Grw.new {H Hd : Hp} {p : Addr} {o : HO} (s : Same Hd H) (h : H p = none) : Grw H Hd (upd H p o) (upd Hd p o) where
  hh := Same.upd h
  dd := Same.upd (s.free h)
  dh := fun b u e => by
    by_cases hb : b = p
    · subst hb; rw [upd_same] at e; rw [upd_same]; exact e
    · rw [upd_ne hb] at e; rw [upd_ne hb]; exact s _ _ e
  fr := fun a h1 h2 => by
    have hb : a ≠ p := fun z => h1 (by rw [z]; exact h)
    rw [upd_ne hb]; exact h2
theorem Grw.junk {H Hd : Hp} {p : Addr} {o : HO} (s : Same Hd H) (h : H p = none) : Grw H Hd (upd H p o) Hd :=
  ⟨Same.upd h, Same.refl _, s.trans (Same.upd h), fun _ _ h2 => h2⟩
end Dv
namespace Dv
open PySem L2

/-! ### what is known of the slots -/
inductive Sl where
  | un | da (d : PyData) | rf (a : Addr)
def SlOk (K : PySem.W.Frag) (Hd : Hp) (x : Option V) : Sl → Prop
  | .un => True
  | .da d => ∃ v, x = some v ∧ Dt K Hd v d
  | .rf a => x = some (.ref a)
abbrev EnvD (K : PySem.W.Frag) (Hd : Hp) (σ : L2.St) (ρ : List Sl) : Prop := Paired (SlOk K Hd) σ ρ
theorem SlOk.mono {K : PySem.W.Frag} {H H' : Hp} {x : Option V} {s : Sl} (h : SlOk K H x s) (g : Same H H') : SlOk K H' x s := by
  cases s with
  | un => trivial
  | da d => obtain ⟨v, e, q⟩ := h; exact ⟨v, e, q.mono g⟩
  | rf a => exact h
theorem EnvD.mono {K : PySem.W.Frag} {H H' : Hp} {σ : L2.St} {ρ : List Sl} (h : EnvD K H σ ρ) (g : Same H H') : EnvD K H' σ ρ := Paired.mapP h fun _ _ q => q.mono g
theorem EnvD.len {K : PySem.W.Frag} {H : Hp} {σ : L2.St} {ρ : List Sl} (h : EnvD K H σ ρ) : σ.length = ρ.length := Paired.length h
theorem EnvD.get : ∀ {K : PySem.W.Frag} {H : Hp} {σ : L2.St} {ρ : List Sl} {i : Nat} {s : Sl}, EnvD K H σ ρ → ρ[i]? = some s → ∃ x, σ[i]? = some x ∧ SlOk K H x s
  | _, _, _, _, _, _, .nil, e => by simp at e
  | _, _, _, _, 0, _, .cons r _, e => by simp at e; subst e; exact ⟨_, rfl, r⟩
  | _, _, _, _, i + 1, s, .cons _ t, e => by
    obtain ⟨u, h1, h2⟩ := EnvD.get (i := i) (s := s) t (by simpa using e)
    exact ⟨u, by simpa using h1, h2⟩
theorem EnvD.set : ∀ {K : PySem.W.Frag} {H : Hp} {σ : L2.St} {ρ : List Sl} {x : Option V} {s : Sl} (i : Nat), EnvD K H σ ρ → SlOk K H x s → EnvD K H (σ.set i x) (ρ.set i s)
  | _, _, _, _, _, _, _, .nil, _ => .nil
  | _, _, _, _, _, _, 0, .cons _ t, q => .cons q t
  | _, _, _, _, _, _, i + 1, .cons r t, q => .cons r (EnvD.set i t q)
theorem EnvD.setU {K : PySem.W.Frag} {H : Hp} {σ : L2.St} {ρ : List Sl} {x : Option V} (i : Nat) (h : EnvD K H σ ρ) : EnvD K H (σ.set i x) (ρ.set i .un) := EnvD.set i h trivial
theorem EnvD.at {K : PySem.W.Frag} {H : Hp} {σ : L2.St} {ρ : List Sl} {i : Nat} {d : PyData} (h : EnvD K H σ ρ) (e : ρ[i]? = some (.da d)) : ∃ v, σ[i]? = some (some v) ∧ Dt K H v d := by
  obtain ⟨x, e1, v, e2, q⟩ := EnvD.get h e
  subst e2
  exact ⟨v, e1, q⟩
theorem EnvD.rf {K : PySem.W.Frag} {H : Hp} {σ : L2.St} {ρ : List Sl} {i : Nat} {a : Addr} (h : EnvD K H σ ρ) (e : ρ[i]? = some (.rf a)) : σ[i]? = some (some (.ref a)) := by
  obtain ⟨x, e1, e2⟩ := EnvD.get h e
  have e2 : x = some (.ref a) := e2
  subst e2
  exact e1
/-- forgetting -/
def WkS (a b : Sl) : Prop := b = .un ∨ a = b
abbrev Wk (ρ ρ' : List Sl) : Prop := Paired WkS ρ ρ'
theorem Wk.refl : ∀ ρ : List Sl, Wk ρ ρ
  | [] => .nil
  | _ :: r => .cons (.inr rfl) (Wk.refl r)
theorem EnvD.wk : ∀ {K : PySem.W.Frag} {H : Hp} {σ : L2.St} {ρ ρ' : List Sl}, EnvD K H σ ρ → Wk ρ ρ' → EnvD K H σ ρ'
  | _, _, _, _, _, .nil, .nil => .nil
  | _, _, _, _, _, .cons r t, .cons q s => by
    refine .cons ?_ (EnvD.wk t s)
    rcases q with q | q
    · subst q; trivial
    · subst q; exact r
theorem EnvD.start {K : PySem.W.Frag} {H : Hp} {vs : List V} {ds : List PyData} (h : DtA K H vs ds) (n : Nat) : EnvD K H (vs.map some ++ List.replicate n none) (ds.map Sl.da ++ List.replicate n .un) := by
  induction vs generalizing ds with
  | nil =>
    cases h
    show EnvD K H (List.replicate n none) (List.replicate n .un)
    induction n with
    | zero => exact .nil
    | succ n ih => exact .cons trivial ih
  | cons v r ih =>
    cases h with
    | cons a b => exact .cons ⟨v, rfl, a⟩ (ih b)

/-! ### a place in the code: its context, what is wished of errors, what is known of the heap -/
/-- the built-in names are as they were -/
structure Bl (mg : Str → Option Value) : Prop where
  len : mg "len" = none
  isi : mg "isinstance" = none
  int : mg "int" = none
  str : mg "str" = none
  bool : mg "bool" = none
  tuple : mg "tuple" = none
  list : mg "list" = none
  dict : mg "dict" = none
  abs : mg "abs" = none
  min : mg "min" = none
  max : mg "max" = none
  range : mg "range" = none
  sorted : mg "sorted" = none
  set : mg "set" = none
  enumerate : mg "enumerate" = none
/-- what is wished of errors, what is known of the heap -/
structure Ow where
  W : WX
  Ψ : Hp → Hp → Prop
  st : ∀ {H Hd H' Hd' : Hp}, Ψ H Hd → Grw H Hd H' Hd' → Ψ H' Hd'
structure Fr where
  X : Cx
  o : Ow
  tk : L2N.Takes X o.W
  hu : X.A.units + 128 < cLine
  bl : Bl X.mg
  po : PassesOwn (model X.prog X.w) X.A X.env X.xe
  nd : X.N.Nodup
structure At (K : PySem.W.Frag) (w : Ow) (ρ : List Sl) (σ : L2.St) (H Hd : Hp) : Prop where
  s : Same Hd H
  e : EnvD K Hd σ ρ
  p : w.Ψ H Hd
theorem At.go {K : PySem.W.Frag} {w : Ow} {ρ : List Sl} {σ : L2.St} {H Hd H' Hd' : Hp} (a : At K w ρ σ H Hd) (g : Grw H Hd H' Hd') : At K w ρ σ H' Hd' := ⟨g.dh, a.e.mono g.dd, w.st a.p g⟩
theorem At.env {K : PySem.W.Frag} {w : Ow} {ρ ρ' : List Sl} {σ σ' : L2.St} {H Hd : Hp} (a : At K w ρ σ H Hd) (e : EnvD K Hd σ' ρ') : At K w ρ' σ' H Hd := ⟨a.s, e, a.p⟩
inductive Res where
  | ok (d : PyData) | er (C : Addr)
def tE (K : PySem.W.Frag) (w : Ow) (ρ : List Sl) : Res → TE
  | .ok d => fun σ H Q => ∃ Hd, At K w ρ σ H Hd ∧ ∀ v H' Hd', Grw H Hd H' Hd' → Dt K Hd' v d → Q v H'
  | .er C => fun σ H _ => ∃ Hd, At K w ρ σ H Hd ∧ ∀ H' Hd', Grw H Hd H' Hd' → w.W (.ref C) none σ H'
def tT (K : PySem.W.Frag) (w : Ow) (ρ : List Sl) (b : Bool) : TT := fun σ H Q => ∃ Hd, At K w ρ σ H Hd ∧ ∀ H' Hd', Grw H Hd H' Hd' → Q b H'
def tA (K : PySem.W.Frag) (w : Ow) (ρ : List Sl) (ds : List PyData) : TA := fun σ H Q => ∃ Hd, At K w ρ σ H Hd ∧ ∀ vs H' Hd', Grw H Hd H' Hd' → DtA K Hd' vs ds → Q vs H'
structure DE (F : Fr) (ρ : List Sl) (e : Expr) (r : Res) : Prop where
  pe : PE F.X e (tE F.X.K F.o ρ r)
structure DT (F : Fr) (ρ : List Sl) (e : Expr) (b : Bool) : Prop where
  pt : PT F.X e (tT F.X.K F.o ρ b)
structure DW (F : Fr) (ρ : List Sl) (e : Expr) (b : Bool) : Prop where
  pw : PW F.X e (tT F.X.K F.o ρ b)
structure DA (F : Fr) (ρ : List Sl) (es : List Expr) (ds : List PyData) : Prop where
  pa : PA F.X es (tA F.X.K F.o ρ ds)

/-! ### readings bent -/
theorem pe_imp {X : Cx} {e : Expr} {t t' : TE} (h : PE X e t) (i : ∀ σ H Q, t' σ H Q → t σ H Q) : PE X e t' := ⟨fun pins s σ H Q I q => h.run pins s σ H Q I (i σ H Q q)⟩
theorem pt_imp {X : Cx} {e : Expr} {t t' : TT} (h : PT X e t) (i : ∀ σ H Q, t' σ H Q → t σ H Q) : PT X e t' := ⟨fun pins s σ H Q I q => h.run pins s σ H Q I (i σ H Q q)⟩
theorem pw_imp {X : Cx} {e : Expr} {t t' : TT} (h : PW X e t) (i : ∀ σ H Q, t' σ H Q → t σ H Q) : PW X e t' := ⟨fun wh pins s σ H Q I q => h.run wh pins s σ H Q I (i σ H Q q)⟩
theorem pa_imp {X : Cx} {e : List Expr} {t t' : TA} (h : PA X e t) (i : ∀ σ H Q, t' σ H Q → t σ H Q) : PA X e t' := ⟨fun pos pins s σ H Q I q => h.run pos pins s σ H Q I (i σ H Q q)⟩
theorem ps_imp {X : Cx} {e : Stmt} {t t' : TS} (h : PS X e t) (i : ∀ D σ H, t' D σ H → t D σ H) : PS X e t' := ⟨fun pins s σ H D I q => h.run pins s σ H D I (i D σ H q)⟩
theorem pss_imp {X : Cx} {e : List Stmt} {t t' : TS} (h : PSs X e t) (i : ∀ D σ H, t' D σ H → t D σ H) : PSs X e t' := ⟨fun pins s σ H D I q => h.run pins s σ H D I (i D σ H q)⟩
/-- any reading of it -/
def uE (X : Cx) (e : Expr) : TE := fun σ H Q => ∃ t, PE X e t ∧ t σ H Q
def uT (X : Cx) (e : Expr) : TT := fun σ H Q => ∃ t, PT X e t ∧ t σ H Q
def uW (X : Cx) (e : Expr) : TT := fun σ H Q => ∃ t, PW X e t ∧ t σ H Q
def uA (X : Cx) (e : List Expr) : TA := fun σ H Q => ∃ t, PA X e t ∧ t σ H Q
def uS (X : Cx) (e : Stmt) : TS := fun D σ H => ∃ t, PS X e t ∧ t D σ H
def uB (X : Cx) (e : List Stmt) : TS := fun D σ H => ∃ t, PSs X e t ∧ t D σ H
theorem pe_u {X : Cx} {e : Expr} : PE X e (uE X e) := ⟨fun pins s σ H Q I ⟨t, h, q⟩ => h.run pins s σ H Q I q⟩
theorem pt_u {X : Cx} {e : Expr} : PT X e (uT X e) := ⟨fun pins s σ H Q I ⟨t, h, q⟩ => h.run pins s σ H Q I q⟩
theorem pw_u {X : Cx} {e : Expr} : PW X e (uW X e) := ⟨fun wh pins s σ H Q I ⟨t, h, q⟩ => h.run wh pins s σ H Q I q⟩
theorem pa_u {X : Cx} {e : List Expr} : PA X e (uA X e) := ⟨fun pos pins s σ H Q I ⟨t, h, q⟩ => h.run pos pins s σ H Q I q⟩
theorem ps_u {X : Cx} {e : Stmt} : PS X e (uS X e) := ⟨fun pins s σ H D I ⟨t, h, q⟩ => h.run pins s σ H D I q⟩
theorem pss_u {X : Cx} {e : List Stmt} : PSs X e (uB X e) := ⟨fun pins s σ H D I ⟨t, h, q⟩ => h.run pins s σ H D I q⟩

/-! ### names, constants -/
section
variable {F : Fr} {ρ : List Sl} {pos : Pos}
theorem de_var {i : Nat} {x : Str} {d : PyData} (e : ρ[i]? = some (.da d)) (h : PE F.X (.Name x pos) (tVar i)) : DE F ρ (.Name x pos) (.ok d) := ⟨pe_imp h fun σ H Q ⟨Hd, a, k⟩ => by
  obtain ⟨v, e1, q⟩ := EnvD.at a.e e
  exact ⟨v, e1, k v H Hd (.refl a.s) q⟩⟩
/-- where a name stands -/
def nix (N : List Str) (x : Str) : Nat := N.findIdx (· == x)
theorem de_nm {x : Str} {d : PyData} (h : F.X.N[nix F.X.N x]? = some x) (e : ρ[nix F.X.N x]? = some (.da d)) (hv : Vis F.X.env.scope x) (hd : (x == ("__debug__" : Str)) = false := by decide) (hcd : (x == ("__classdict__" : Str)) = false := by decide) : DE F ρ (.Name x pos) (.ok d) := de_var e (pe_var h hv hd hcd)
theorem de_const {x : Expr} {v : V} {d : PyData} (h : PE F.X x (tC v)) (q : ∀ H, Dt F.X.K H v d) : DE F ρ x (.ok d) := ⟨pe_imp h fun σ H Q ⟨Hd, a, k⟩ => k v H Hd (.refl a.s) (q Hd)⟩
theorem de_int {i : Int} {j : Nat} : DE F ρ (.Constant (.int i) j pos) (.ok (.int i)) := de_const pe_int fun _ => .int i
theorem de_bl {i : Bool} {j : Nat} : DE F ρ (.Constant (.bool i) j pos) (.ok (.bool i)) := de_const pe_bl fun _ => .bl i
theorem de_non {j : Nat} : DE F ρ (.Constant .none j pos) (.ok .none) := de_const pe_non fun _ => .non
theorem de_str {i : Str} {j : Nat} : DE F ρ (.Constant (.str i) j pos) (.ok (.str i)) := de_const pe_str fun _ => .str i
/-- a module's constant -/
theorem de_globI {x : Str} {i : Int} {t : Tok} (hg : Gl F.X x) (hm : F.X.mg x = some (.int i t)) (hd : (x == ("__debug__" : Str)) = false := by decide) : DE F ρ (.Name x pos) (.ok (.int i)) := de_const (pe_glob (v := .int i) hg hm ⟨_, rfl⟩ hd) fun _ => .int i
theorem de_globS {x : Str} {i : Str} {t : Tok} (hg : Gl F.X x) (hm : F.X.mg x = some (.str i t)) (hd : (x == ("__debug__" : Str)) = false := by decide) : DE F ρ (.Name x pos) (.ok (.str i)) := de_const (pe_glob (v := .str i) hg hm ⟨_, rfl⟩ hd) fun _ => .str i

/-! ### operations by data -/
/-- by data: from data da, db comes dz -/
def Rd2 (K : PySem.W.Frag) (r : R2) (da db dz : PyData) : Prop := ∀ (x y : V) (H Hd : Hp) (Q : VK), Same Hd H → Dt K Hd x da → Dt K Hd y db → (∀ v H' Hd', Grw H Hd H' Hd' → Dt K Hd' v dz → Q v H') → r x y H Q
def Rd1 (K : PySem.W.Frag) (r : V → Hp → VK → Prop) (da dz : PyData) : Prop := ∀ (x : V) (H Hd : Hp) (Q : VK), Same Hd H → Dt K Hd x da → (∀ v H' Hd', Grw H Hd H' Hd' → Dt K Hd' v dz → Q v H') → r x H Q
def RdA (K : PySem.W.Frag) (r : List V → Hp → VK → Prop) (da : List PyData) (dz : PyData) : Prop := ∀ (x : List V) (H Hd : Hp) (Q : VK), Same Hd H → DtA K Hd x da → (∀ v H' Hd', Grw H Hd H' Hd' → Dt K Hd' v dz → Q v H') → r x H Q
theorem tE_ok {K : PySem.W.Frag} {w : Ow} {ρ : List Sl} {d : PyData} {σ : L2.St} {H Hd : Hp} {Q : VK} (a : At K w ρ σ H Hd) (k : ∀ v H' Hd', Grw H Hd H' Hd' → Dt K Hd' v d → Q v H') : tE K w ρ (.ok d) σ H Q := ⟨Hd, a, k⟩
theorem de_op2 {r : R2} {e : Expr} {da db dz : PyData} {ta tb : TE} (h : PE F.X e (tOp r (tE F.X.K F.o ρ (.ok da)) (tE F.X.K F.o ρ (.ok db)))) (q : Rd2 F.X.K r da db dz) : DE F ρ e (.ok dz) := ⟨pe_imp h fun σ H Q ⟨Hd, a, k⟩ =>
  tE_ok a fun x H1 Hd1 g1 dx => tE_ok (a.go g1) fun y H2 Hd2 g2 dy => q x y H2 Hd2 Q g2.dh (dx.mono g2.dd) dy fun v H' Hd' g d => k v H' Hd' ((g1.trans g2).trans g) d⟩
theorem de_op1 {r : V → Hp → VK → Prop} {e : Expr} {da dz : PyData} (h : PE F.X e (tUn r (tE F.X.K F.o ρ (.ok da)))) (q : Rd1 F.X.K r da dz) : DE F ρ e (.ok dz) := ⟨pe_imp h fun σ H Q ⟨Hd, a, k⟩ =>
  tE_ok a fun x H1 Hd1 g1 dx => q x H1 Hd1 Q g1.dh dx fun v H' Hd' g d => k v H' Hd' (g1.trans g) d⟩
def BinD (X : Cx) (f : Value → Value → Sem Value) (da db dz : PyData) : Prop := ∃ r, OpR X f r ∧ Rd2 X.K r da db dz
def UnD (X : Cx) (f : Value → Sem Value) (da dz : PyData) : Prop := ∃ r, UnR X f r ∧ Rd1 X.K r da dz
theorem de_bin {op : Operator} {a b : Expr} {da db dz : PyData} (ha : DE F ρ a (.ok da)) (hb : DE F ρ b (.ok db)) (h : BinD F.X (binaryOp op) da db dz) : DE F ρ (.BinOp a op b pos) (.ok dz) := by
  obtain ⟨r, o, q⟩ := h
  exact de_op2 (ta := tE F.X.K F.o ρ (.ok da)) (tb := tE F.X.K F.o ρ (.ok db)) (pe_op o ha.pe hb.pe) q
theorem de_un {op : UnaryOp} {a : Expr} {da dz : PyData} (ha : DE F ρ a (.ok da)) (h : UnD F.X (unaryOp op) da dz) : DE F ρ (.UnaryOp op a pos) (.ok dz) := by
  obtain ⟨r, o, q⟩ := h
  exact de_op1 (pe_un o ha.pe) q
theorem de_cmp {op : CmpOp} {a b : Expr} {da db dz : PyData} (ha : DE F ρ a (.ok da)) (hb : DE F ρ b (.ok db)) (h : BinD F.X (compareOp op) da db dz) (hm : behindInMarks op b = false := by first | exact nomark _ | rfl) : DE F ρ (.Compare a [op] [b] pos) (.ok dz) := by
  obtain ⟨r, o, q⟩ := h
  exact de_op2 (ta := tE F.X.K F.o ρ (.ok da)) (tb := tE F.X.K F.o ρ (.ok db)) (pe_cmpR o ha.pe hb.pe hm) q
/-- an error in the first part, in the second -/
theorem de_binE1 {op : Operator} {a b : Expr} {C : Addr} (hX : ∃ r, OpR F.X (binaryOp op) r) (ha : DE F ρ a (.er C)) : DE F ρ (.BinOp a op b pos) (.er C) := by
  obtain ⟨r, o⟩ := hX
  exact ⟨pe_imp (pe_op o ha.pe pe_u) fun σ H Q q => q⟩
theorem de_binE2 {op : Operator} {a b : Expr} {da : PyData} {C : Addr} (hX : ∃ r, OpR F.X (binaryOp op) r) (ha : DE F ρ a (.ok da)) (hb : DE F ρ b (.er C)) : DE F ρ (.BinOp a op b pos) (.er C) := by
  obtain ⟨r, o⟩ := hX
  refine ⟨pe_imp (pe_op o ha.pe hb.pe) fun σ H Q ⟨Hd, a, k⟩ => tE_ok a fun x H1 Hd1 g1 dx => ⟨Hd1, a.go g1, fun H2 Hd2 g2 => k H2 Hd2 (g1.trans g2)⟩⟩

/-! ### argument lists -/
theorem da_nil : DA F ρ [] [] := ⟨pa_imp pa_nil fun σ H Q ⟨Hd, a, k⟩ => k [] H Hd (.refl a.s) .nil⟩
theorem da_cons {e : Expr} {es : List Expr} {d : PyData} {ds : List PyData} (h : DE F ρ e (.ok d)) (t : DA F ρ es ds) (hs : starEach (e :: es) F.X.env = (false, eval e F.X.env) :: starEach es F.X.env := by rfl) : DA F ρ (e :: es) (d :: ds) :=
  ⟨pa_imp (pa_cons h.pe t.pa hs) fun σ H Q ⟨Hd, a, k⟩ => tE_ok a fun x H1 Hd1 g1 dx => ⟨Hd1, a.go g1, fun vs H2 Hd2 g2 dvs => k (x :: vs) H2 Hd2 (g1.trans g2) (.cons (dx.mono g2.dd) dvs)⟩⟩
theorem de_args {r : List V → Hp → VK → Prop} {e : Expr} {ds : List PyData} {dz : PyData} (h : PE F.X e (tCB r (tA F.X.K F.o ρ ds))) (q : RdA F.X.K r ds dz) : DE F ρ e (.ok dz) := ⟨pe_imp h fun σ H Q ⟨Hd, a, k⟩ =>
  ⟨Hd, a, fun x H1 Hd1 g1 dx => q x H1 Hd1 Q g1.dh dx fun v H' Hd' g d => k v H' Hd' (g1.trans g) d⟩⟩
theorem DtA.line {K : PySem.W.Frag} {H : Hp} {vs : List V} {ds : List PyData} (h : DtA K H vs ds) (z : ds.length ≤ sizeLine) : vs.length ≤ sizeLine := by rw [h.len]; exact z
theorem de_list {es : List Expr} {ds : List PyData} (h : DA F ρ es ds) (hz : ds.length ≤ sizeLine := by decide +kernel) : DE F ρ (.List es pos) (.ok (.list ds)) := ⟨pe_imp (pe_lst h.pa) fun σ H Q ⟨Hd, a, k⟩ =>
  ⟨Hd, a, fun vs H1 Hd1 g1 dvs => ⟨dvs.line hz, fun p hp => k _ _ (L2.upd Hd1 p (.lst vs)) (g1.trans (.new g1.dh hp)) (.lst (.inl (.inl upd_same)) (dvs.mono (Same.upd (g1.dh.free hp))))⟩⟩⟩
theorem de_tup {es : List Expr} {x1 : Nat} {ds : List PyData} (h : DA F ρ es ds) (hz : ds.length ≤ sizeLine := by decide +kernel) : DE F ρ (.Tuple es x1 pos) (.ok (.tuple ds)) := ⟨pe_imp (pe_tup h.pa) fun σ H Q ⟨Hd, a, k⟩ =>
  ⟨Hd, a, fun vs H1 Hd1 g1 dvs => ⟨dvs.line hz, fun p hp => k _ _ (L2.upd Hd1 p (.tup vs)) (g1.trans (.new g1.dh hp)) (.tup (.inl upd_same) (dvs.mono (Same.upd (g1.dh.free hp))))⟩⟩⟩
end
end Dv
namespace Dv
open PySem L2

section
variable {X : Cx}
/-! ### whole numbers -/
theorem rd_I0 {K : PySem.W.Frag} {g : Int → Int → V} {i j : Int} {z : PyData} (h : ∀ H, Dt K H (g i j) z) : Rd2 K (rI0 g) (.int i) (.int j) z := fun x y H Hd Q s dx dy k => by
  cases dx; cases dy
  exact ⟨i, j, rfl, rfl, k _ H Hd (.refl s) (h Hd)⟩
theorem rd_I {K : PySem.W.Frag} {C : Int → Int → Prop} {g : Int → Int → V} {i j : Int} {z : PyData} (c : C i j) (h : ∀ H, Dt K H (g i j) z) : Rd2 K (rI C g) (.int i) (.int j) z := fun x y H Hd Q s dx dy k => by
  cases dx; cases dy
  exact ⟨i, j, rfl, rfl, c, k _ H Hd (.refl s) (h Hd)⟩
theorem bd_addI {i j : Int} : BinD X (binaryOp .Add) (.int i) (.int j) (.int (i + j)) := ⟨_, op_add, rd_I0 fun _ => .int _⟩
theorem bd_subI {i j : Int} : BinD X (binaryOp .Sub) (.int i) (.int j) (.int (i - j)) := ⟨_, op_sub, rd_I0 fun _ => .int _⟩
theorem bd_mulI {i j : Int} (c : CMul i j) : BinD X (binaryOp .Mult) (.int i) (.int j) (.int (i * j)) := ⟨_, op_mul, rd_I c fun _ => .int _⟩
theorem bd_divI {i j : Int} (c : CDiv i j) : BinD X (binaryOp .FloorDiv) (.int i) (.int j) (.int (i / j)) := ⟨_, op_fdiv, rd_I c fun _ => .int _⟩
theorem bd_modI {i j : Int} (c : 0 < j) : BinD X (binaryOp .Mod) (.int i) (.int j) (.int (i % j)) := ⟨_, op_mod, rd_I c fun _ => .int _⟩
theorem bd_powI {i j : Int} (c : CPow i j) : BinD X (binaryOp .Pow) (.int i) (.int j) (.int (i ^ j.toNat)) := ⟨_, op_pow, rd_I c fun _ => .int _⟩
theorem bd_ltI {i j : Int} : BinD X (compareOp .Lt) (.int i) (.int j) (.bool (decide (i < j))) := ⟨_, op_lt, rd_I0 fun _ => .bl _⟩
theorem bd_leI {i j : Int} : BinD X (compareOp .LtE) (.int i) (.int j) (.bool (decide (i ≤ j))) := ⟨_, op_le, rd_I0 fun _ => .bl _⟩
theorem bd_gtI {i j : Int} : BinD X (compareOp .Gt) (.int i) (.int j) (.bool (decide (j < i))) := ⟨_, op_gt, rd_I0 fun _ => .bl _⟩
theorem bd_geI {i j : Int} : BinD X (compareOp .GtE) (.int i) (.int j) (.bool (decide (j ≤ i))) := ⟨_, op_ge, rd_I0 fun _ => .bl _⟩
theorem ud_neg {i : Int} : UnD X (unaryOp .USub) (.int i) (.int (-i)) := ⟨_, un_neg, fun x H Hd Q s dx k => by
  cases dx
  exact ⟨i, rfl, k _ H Hd (.refl s) (.int _)⟩⟩

/-! ### equality -/
theorem rd_eqS {K : PySem.W.Frag} {x y : V} {dx dy : PyData} (hx : ∀ H v, Dt K H v dx → v = x) (hy : ∀ H v, Dt K H v dy → v = y) (h : scal x y = true) {b : Bool} (hb : decide (x = y) = b) : Rd2 K rEq dx dy (.bool b) := fun v u H Hd Q s d1 d2 k => by
  have e1 := hx _ _ d1
  have e2 := hy _ _ d2
  subst e1 e2 hb
  exact ⟨h, k _ H Hd (.refl s) (.bl _)⟩
theorem rd_neS {K : PySem.W.Frag} {x y : V} {dx dy : PyData} (hx : ∀ H v, Dt K H v dx → v = x) (hy : ∀ H v, Dt K H v dy → v = y) (h : scal x y = true) {b : Bool} (hb : (!decide (x = y)) = b) : Rd2 K rNe dx dy (.bool b) := fun v u H Hd Q s d1 d2 k => by
  have e1 := hx _ _ d1
  have e2 := hy _ _ d2
  subst e1 e2 hb
  exact ⟨h, k _ H Hd (.refl s) (.bl _)⟩
theorem dt_int1 {K : PySem.W.Frag} {i : Int} : ∀ H v, Dt K H v (.int i) → v = .int i := fun _ _ h => by cases h; rfl
theorem dt_str1 {K : PySem.W.Frag} {i : Str} : ∀ H v, Dt K H v (.str i) → v = .str i := fun _ _ h => by cases h; rfl
theorem dt_bl1 {K : PySem.W.Frag} {i : Bool} : ∀ H v, Dt K H v (.bool i) → v = .bl i := fun _ _ h => by cases h; rfl
theorem dt_non1 {K : PySem.W.Frag} : ∀ H v, Dt K H v .none → v = .non := fun _ _ h => by cases h; rfl
theorem bd_eqI {i j : Int} : BinD X (compareOp .Eq) (.int i) (.int j) (.bool (decide (i = j))) := ⟨_, op_eq, rd_eqS dt_int1 dt_int1 rfl (by simp)⟩
theorem bd_neI {i j : Int} : BinD X (compareOp .NotEq) (.int i) (.int j) (.bool (!decide (i = j))) := ⟨_, op_ne, rd_neS dt_int1 dt_int1 rfl (by simp)⟩
theorem bd_eqT {i j : Str} : BinD X (compareOp .Eq) (.str i) (.str j) (.bool (decide (i = j))) := ⟨_, op_eq, rd_eqS dt_str1 dt_str1 rfl (by simp)⟩
theorem bd_neT {i j : Str} : BinD X (compareOp .NotEq) (.str i) (.str j) (.bool (!decide (i = j))) := ⟨_, op_ne, rd_neS dt_str1 dt_str1 rfl (by simp)⟩
theorem bd_eqB {i j : Bool} : BinD X (compareOp .Eq) (.bool i) (.bool j) (.bool (decide (i = j))) := ⟨_, op_eq, rd_eqS dt_bl1 dt_bl1 rfl (by simp)⟩
theorem bd_neB {i j : Bool} : BinD X (compareOp .NotEq) (.bool i) (.bool j) (.bool (!decide (i = j))) := ⟨_, op_ne, rd_neS dt_bl1 dt_bl1 rfl (by simp)⟩
/-- == of any data without dicts -/
theorem bd_eqD {d e : PyData} (hu : X.A.units + 128 < cLine) (sd : SeqAt.shaped d = true) (se : SeqAt.shaped e = true) : BinD X (compareOp .Eq) d e (.bool (PyData.eqv d e)) :=
  ⟨_, op_eqD (by omega), fun x y H Hd Q s dx dy k => ⟨d, e, (dx.mono s).dpS sd, (dy.mono s).dpS se, sd, se, k _ H Hd (.refl s) (.bl _)⟩⟩
theorem bd_neD {d e : PyData} (hu : X.A.units + 128 < cLine) (sd : SeqAt.shaped d = true) (se : SeqAt.shaped e = true) : BinD X (compareOp .NotEq) d e (.bool (!PyData.eqv d e)) :=
  ⟨_, op_neD (by omega), fun x y H Hd Q s dx dy k => ⟨d, e, (dx.mono s).dpS sd, (dy.mono s).dpS se, sd, se, k _ H Hd (.refl s) (.bl _)⟩⟩
/-- is None -/
def isNone : PyData → Bool
  | .none => true
  | _ => false
theorem dt_isN {K : PySem.W.Frag} {H : Hp} {v : V} {d : PyData} (h : Dt K H v d) : decide (v = .non) = isNone d := by
  cases h <;> simp [isNone]
theorem bd_isN {d : PyData} : BinD X (compareOp .Is) d .none (.bool (isNone d)) := ⟨_, op_isN, fun x y H Hd Q s dx dy k => by
  have e := dt_isN dx
  cases dy
  refine ⟨rfl, k _ H Hd (.refl s) ?_⟩
  rw [e]; exact .bl _⟩
theorem bd_notN {d : PyData} : BinD X (compareOp .IsNot) d .none (.bool (!isNone d)) := ⟨_, op_notN, fun x y H Hd Q s dx dy k => by
  have e := dt_isN dx
  cases dy
  refine ⟨rfl, k _ H Hd (.refl s) ?_⟩
  rw [e]; exact .bl _⟩

/-! ### texts, lists, tuples joined -/
theorem bd_addT {i j : Str} (hz : i.length + j.length ≤ sizeLine) : BinD X (binaryOp .Add) (.str i) (.str j) (.str (i ++ j)) := ⟨_, op_add_str, fun x y H Hd Q s dx dy k => by
  cases dx; cases dy
  exact ⟨i, j, rfl, rfl, hz, k _ H Hd (.refl s) (.str _)⟩⟩
def rCatR (K : PySem.W.Frag) : R2 := fun x y H Q => ∃ l b xs zs, x = .ref l ∧ y = .ref b ∧ SqL K H l xs ∧ SqL K H b zs ∧ xs.length + zs.length ≤ sizeLine ∧ ∀ p, H p = none → Q (.ref p) (upd H p (.lst (xs ++ zs)))
theorem op_catR : OpR X (binaryOp .Add) (rCatR X.K) := by
  intro pins s σ H x y v u Q I rx ry h
  obtain ⟨l, b, xs, zs, rfl, rfl, hH, hB, hz, q⟩ := h
  cases rx
  cases ry
  obtain ⟨its, r, ⟨o, n, e, c1, c2, c3⟩, _⟩ := I.list hH
  obtain ⟨its2, r2, ⟨o2, n2, e2, d1, d2, d3⟩, _⟩ := I.list hB
  have l1 := r.length
  have l2 := r2.length
  obtain ⟨oc, od, oda, osl⟩ := o
  obtain ⟨oc2, od2, oda2, osl2⟩ := o2
  dsimp only at c1 c2 c3 d1 d2 d3
  subst c1 c2 c3 d1 d2 d3
  refine concat_meets ⟨_, e, rfl⟩ ⟨_, e2, rfl⟩ noFill_list_add seq_list_add PySem.F.slot_list_add PySem.F.entry_list_add (PySem.F.args_list_add_2 _ _) (PyProof.Rows.list_addW _ _ its.toArray its2.toArray n n2 _ _ _ _ (by simp only [List.size_toArray]; omega)) ⟨e, e2, ?_⟩
  rw [show its.toArray ++ its2.toArray = (its ++ its2).toArray by simp]
  exact ⟨.ref _, _, I.lnew (t' := s.toks) (r.append r2) (by rw [List.length_append]; omega), rfl, q _ I.fresh⟩
theorem bd_addL {i j : List PyData} (hz : i.length + j.length ≤ sizeLine) : BinD X (binaryOp .Add) (.list i) (.list j) (.list (i ++ j)) := ⟨_, op_catR, fun x y H Hd Q s dx dy k => by
  cases dx with
  | lst r1 d1 =>
    cases dy with
    | lst r2 d2 =>
      refine ⟨_, _, _, _, rfl, rfl, s.seq r1, s.seq r2, by rw [d1.len, d2.len]; exact hz, fun p hp => k _ _ _ (.new s hp) (.lst (.inl (.inl upd_same)) ((d1.append d2).mono (Same.upd (s.free hp))))⟩⟩
theorem bd_addU {i j : List PyData} (hz : i.length + j.length ≤ sizeLine) : BinD X (binaryOp .Add) (.tuple i) (.tuple j) (.tuple (i ++ j)) := ⟨_, op_catA, fun x y H Hd Q s dx dy k => by
  cases dx with
  | @tup a xs _ r1 d1 =>
    cases dy with
    | @tup b ys _ r2 d2 =>
      refine ⟨_, _, _, _, rfl, rfl, .inl (Rd.mono r1 s), .inl (Rd.mono r2 s), by rw [d1.len, d2.len]; exact hz, fun e => ?_, fun e1 e2 => ?_, fun _ _ p hp => k _ _ _ (.new s hp) (.tup (.inl upd_same) ((d1.append d2).mono (Same.upd (s.free hp))))⟩
      · subst e; cases d1; exact k _ H Hd (.refl s) (.tup r2 d2)
      · subst e2; cases d2; exact k _ H Hd (.refl s) (by rw [List.append_nil]; exact .tup r1 d1)⟩

/-! ### in -/
theorem bd_inT {c : Nat} {z : Str} : BinD X (compareOp .In) (.str ⟨#[c]⟩) (.str z) (.bool (decide (c ∈ z.cps.toList))) := ⟨_, op_in_sign, fun x y H Hd Q s dx dy k => by
  cases dx; cases dy
  exact ⟨c, z, rfl, rfl, k _ H Hd (.refl s) (.bl _)⟩⟩
theorem bd_ninT {c : Nat} {z : Str} : BinD X (compareOp .NotIn) (.str ⟨#[c]⟩) (.str z) (.bool (!decide (c ∈ z.cps.toList))) := ⟨_, op_notIn_sign, fun x y H Hd Q s dx dy k => by
  cases dx; cases dy
  exact ⟨c, z, rfl, rfl, k _ H Hd (.refl s) (.bl _)⟩⟩
theorem bd_inD {d : PyData} {ds : List PyData} (hu : X.A.units + 128 < cLine) (sd : SeqAt.shaped d = true) (se : SeqAt.shaped (.list ds) = true) : BinD X (compareOp .In) d (.list ds) (.bool (ds.any fun z => PyData.eqv z d)) :=
  ⟨_, op_inD (by omega), fun x y H Hd Q s dx dy k => ⟨d, ds, (dx.mono s).dpS sd, (dy.mono s).dpS se, sd, se, k _ H Hd (.refl s) (.bl _)⟩⟩
theorem bd_ninD {d : PyData} {ds : List PyData} (hu : X.A.units + 128 < cLine) (sd : SeqAt.shaped d = true) (se : SeqAt.shaped (.list ds) = true) : BinD X (compareOp .NotIn) d (.list ds) (.bool (!ds.any fun z => PyData.eqv z d)) :=
  ⟨_, op_notInD (by omega), fun x y H Hd Q s dx dy k => ⟨d, ds, (dx.mono s).dpS sd, (dy.mono s).dpS se, sd, se, k _ H Hd (.refl s) (.bl _)⟩⟩
theorem shaped_ints (ns : List Int) : SeqAt.shaped (.list (ns.map .int)) = true := by
  have h1 : ∀ ns : List Int, PyData.canLayAll0 (ns.map .int) = true := fun ns => by
    induction ns with
    | nil => rfl
    | cons n r ih => simp [PyData.canLayAll0, PyData.canLay0, ih]
  have h2 : ∀ ns : List Int, PyData.depthAll (ns.map .int) ≤ 1 := fun ns => by
    induction ns with
    | nil => simp [PyData.depthAll]
    | cons n r ih => simp [PyData.depthAll, PyData.depth]; omega
  have := h2 ns
  simp only [SeqAt.shaped, PyData.canLay0, PyData.depth, h1, Bool.true_and, decide_eq_true_eq]
  exact decide_eq_true (by omega)
theorem any_int {n : Int} {ns : List Int} : ((ns.map PyData.int).any fun z => PyData.eqv z (.int n)) = decide (n ∈ ns) := by
  induction ns with
  | nil => simp
  | cons m r ih =>
    rw [List.map_cons, List.any_cons, ih]
    simp only [PyData.eqv, List.mem_cons]
    rw [Bool.eq_iff_iff]
    simp only [Bool.or_eq_true, decide_eq_true_eq, beq_iff_eq]
    constructor
    · rintro (h | h)
      · exact .inl h.symm
      · exact .inr h
    · rintro (h | h)
      · exact .inl h.symm
      · exact .inr h
theorem shaped_int (n : Int) : SeqAt.shaped (.int n) = true := by simp [SeqAt.shaped, PyData.canLay0, PyData.depth]
theorem bd_inI {n : Int} {ns : List Int} (hu : X.A.units + 128 < cLine) : BinD X (compareOp .In) (.int n) (.list (ns.map .int)) (.bool (decide (n ∈ ns))) := by
  have h := bd_inD (X := X) (d := .int n) (ds := ns.map .int) hu (shaped_int n) (shaped_ints ns)
  rw [any_int] at h
  exact h
theorem bd_ninI {n : Int} {ns : List Int} (hu : X.A.units + 128 < cLine) : BinD X (compareOp .NotIn) (.int n) (.list (ns.map .int)) (.bool (!decide (n ∈ ns))) := by
  have h := bd_ninD (X := X) (d := .int n) (ds := ns.map .int) hu (shaped_int n) (shaped_ints ns)
  rw [any_int] at h
  exact h
end

/-! ### items -/
def itemD (d : PyData) (i : Int) : Option PyData := match d with
  | .list ds => atI ds i
  | .tuple ds => atI ds i
  | _ => none
theorem atI_dt {K : PySem.W.Frag} {H : Hp} {xs : List V} {ds : List PyData} {i : Int} {d : PyData} (h : DtA K H xs ds) (e : atI ds i = some d) : ∃ v, atI xs i = some v ∧ Dt K H v d := by
  unfold atI at e ⊢
  rw [h.len]
  cases q : ixN ds.length i with
  | none => rw [q] at e; cases e
  | some j =>
    rw [q] at e
    exact h.get e
section
variable {F : Fr} {ρ : List Sl} {pos : Pos}
theorem de_ixL {a b : Expr} {ds : List PyData} {i : Int} {d : PyData} (ha : DE F ρ a (.ok (.list ds))) (hb : DE F ρ b (.ok (.int i))) (h : atI ds i = some d) (hs : PlainIx b) : DE F ρ (.Subscript a b pos) (.ok d) :=
  de_op2 (ta := tE F.X.K F.o ρ (.ok (.list ds))) (tb := tE F.X.K F.o ρ (.ok (.int i))) (pe_ix ix_list ha.pe hb.pe hs) fun x y H Hd Q s dx dy k => by
    cases dx with
    | lst r1 d1 =>
      cases dy
      obtain ⟨v, e, q⟩ := atI_dt d1 h
      exact ⟨_, _, i, v, rfl, rfl, s.seq r1, e, k _ H Hd (.refl s) q⟩
theorem de_ixU {a b : Expr} {ds : List PyData} {i : Int} {d : PyData} (ha : DE F ρ a (.ok (.tuple ds))) (hb : DE F ρ b (.ok (.int i))) (h : atI ds i = some d) (hs : PlainIx b) : DE F ρ (.Subscript a b pos) (.ok d) :=
  de_op2 (ta := tE F.X.K F.o ρ (.ok (.tuple ds))) (tb := tE F.X.K F.o ρ (.ok (.int i))) (pe_ix ix_tup ha.pe hb.pe hs) fun x y H Hd Q s dx dy k => by
    cases dx with
    | tup r1 d1 =>
      cases dy
      obtain ⟨v, e, q⟩ := atI_dt d1 h
      exact ⟨_, _, i, v, rfl, rfl, .inl (Rd.mono r1 s), e, k _ H Hd (.refl s) q⟩
theorem de_ixS {a b : Expr} {z : Str} {i : Int} {c : Nat} (ha : DE F ρ a (.ok (.str z))) (hb : DE F ρ b (.ok (.int i))) (h : atI z.cps.toList i = some c) (hz : z.length ≤ sizeLine) (hs : PlainIx b) : DE F ρ (.Subscript a b pos) (.ok (.str ⟨#[c]⟩)) :=
  de_op2 (ta := tE F.X.K F.o ρ (.ok (.str z))) (tb := tE F.X.K F.o ρ (.ok (.int i))) (pe_ix ix_str ha.pe hb.pe hs) fun x y H Hd Q s dx dy k => by
    cases dx; cases dy
    exact ⟨z, i, c, rfl, rfl, hz, h, k _ H Hd (.refl s) (.str _)⟩

/-! ### slices -/
structure DO (F : Fr) (ρ : List Sl) (e : Option Expr) (o : Option Int) : Prop where
  po : PO F.X e (fun σ H Q => ∃ Hd, At F.X.K F.o ρ σ H Hd ∧ ∀ H' Hd', Grw H Hd H' Hd' → Q o H')
theorem do_none : DO F ρ none none := ⟨⟨fun pins s σ H Q I ⟨Hd, a, k⟩ => po_none.run pins s σ H Q I (k H Hd (.refl a.s))⟩⟩
theorem do_some {e : Expr} {i : Int} (h : DE F ρ e (.ok (.int i))) : DO F ρ (some e) (some i) := ⟨⟨fun pins s σ H Q I ⟨Hd, a, k⟩ => (po_some h.pe).run pins s σ H Q I (tE_ok a fun v H1 Hd1 g d => by
  cases d
  exact ⟨i, rfl, k H1 Hd1 g⟩)⟩⟩
def cutD (ds : List PyData) (lo hi : Option Int) : List PyData := (ds.drop (HT.sIx ds.length 0 lo)).take (HT.sIx ds.length ds.length hi - HT.sIx ds.length 0 lo)
theorem DtA.cut {K : PySem.W.Frag} {H : Hp} {xs : List V} {ds : List PyData} (h : DtA K H xs ds) (lo hi : Option Int) : DtA K H (cutV xs lo hi) (cutD ds lo hi) := by
  unfold cutV cutD
  rw [h.len]
  exact (h.drop _).take _
theorem de_slS {a : Expr} {lo hi : Option Expr} {z : Str} {l u : Option Int} {p2 : Pos} (ha : DE F ρ a (.ok (.str z))) (hl : DO F ρ lo l) (hh : DO F ρ hi u) (hz : z.length ≤ sizeLine) : DE F ρ (.Subscript a (.Slice lo hi none p2) pos) (.ok (.str (cutS z l u))) :=
  ⟨pe_imp (pe_slice sl_str ha.pe hl.po hh.po) fun σ H Q ⟨Hd, at0, k⟩ => tE_ok at0 fun v H1 Hd1 g1 d1 => by
    cases d1
    exact ⟨Hd1, at0.go g1, fun H2 Hd2 g2 => ⟨Hd2, (at0.go g1).go g2, fun H3 Hd3 g3 => ⟨z, rfl, hz, k _ H3 Hd3 ((g1.trans g2).trans g3) (.str _)⟩⟩⟩⟩
theorem de_slL {a : Expr} {lo hi : Option Expr} {ds : List PyData} {l u : Option Int} {p2 : Pos} (ha : DE F ρ a (.ok (.list ds))) (hl : DO F ρ lo l) (hh : DO F ρ hi u) : DE F ρ (.Subscript a (.Slice lo hi none p2) pos) (.ok (.list (cutD ds l u))) :=
  ⟨pe_imp (pe_slice sl_list ha.pe hl.po hh.po) fun σ H Q ⟨Hd, at0, k⟩ => tE_ok at0 fun v H1 Hd1 g1 d1 => by
    cases d1 with
    | lst r1 d1 =>
      exact ⟨Hd1, at0.go g1, fun H2 Hd2 g2 => ⟨Hd2, (at0.go g1).go g2, fun H3 Hd3 g3 => ⟨_, _, rfl, (g1.dh.trans (g2.hh.trans g3.hh)).seq r1, fun p hp =>
        k _ _ _ (((g1.trans g2).trans g3).trans (.new g3.dh hp)) (.lst (.inl (.inl upd_same)) (((d1.cut l u).mono (g2.dd.trans g3.dd)).mono (Same.upd (g3.dh.free hp))))⟩⟩⟩⟩
theorem de_slU {a : Expr} {lo hi : Option Expr} {ds : List PyData} {l u : Option Int} {p2 : Pos} (ha : DE F ρ a (.ok (.tuple ds))) (hl : DO F ρ lo l) (hh : DO F ρ hi u) : DE F ρ (.Subscript a (.Slice lo hi none p2) pos) (.ok (.tuple (cutD ds l u))) :=
  ⟨pe_imp (pe_slice sl_tupA ha.pe hl.po hh.po) fun σ H Q ⟨Hd, at0, k⟩ => tE_ok at0 fun v H1 Hd1 g1 d1 => by
    cases d1 with
    | @tup b xs _ r1 d1 =>
      refine ⟨Hd1, at0.go g1, fun H2 Hd2 g2 => ⟨Hd2, (at0.go g1).go g2, fun H3 Hd3 g3 => ⟨_, _, rfl, .inl (Rd.mono r1 (g1.dh.trans (g2.hh.trans g3.hh))), fun hw => ?_, fun _ p hp =>
        k _ _ _ (((g1.trans g2).trans g3).trans (.new g3.dh hp)) (.tup (.inl upd_same) (((d1.cut l u).mono (g2.dd.trans g3.dd)).mono (Same.upd (g3.dh.free hp))))⟩⟩⟩
      refine k _ H3 Hd3 ((g1.trans g2).trans g3) ?_
      have e : cutD ds l u = ds := by
        unfold cutD
        rw [← d1.len, hw.1, hw.2, d1.len, List.drop_zero, Nat.sub_zero, List.take_length]
      rw [e]
      exact .tup (Rd.mono r1 (g2.dd.trans g3.dd)) (d1.mono (g2.dd.trans g3.dd))⟩
end
end Dv
namespace Dv
open PySem L2

section
variable {F : Fr} {ρ : List Sl} {pos : Pos} {a b c e : Expr} {es : List Expr} {x y : Bool} {d d1 d2 da db dc : PyData}
theorem tT_mk {w : Ow} {σ : L2.St} {H Hd : Hp} {Q : Bool → Hp → Prop} (a : At K w ρ σ H Hd) (k : ∀ H' Hd', Grw H Hd H' Hd' → Q x H') : tT K w ρ x σ H Q := ⟨Hd, a, k⟩
/-! ### tests -/
theorem dt_cmp {op : CmpOp} (ha : DE F ρ a (.ok da)) (hb : DE F ρ b (.ok db)) (h : BinD F.X (compareOp op) da db (.bool x)) (hm : behindInMarks op b = false := by first | exact nomark _ | rfl) : DT F ρ (.Compare a [op] [b] pos) x := by
  obtain ⟨r, o, q⟩ := h
  exact ⟨pt_imp (pt_cmpR o ha.pe hb.pe hm) fun σ H Q ⟨Hd, at0, k⟩ => tE_ok at0 fun v H1 Hd1 g1 d1 => tE_ok (at0.go g1) fun u H2 Hd2 g2 d2 => q v u H2 Hd2 _ g2.dh (d1.mono g2.dd) d2 fun z H3 Hd3 g3 d3 => by
    cases d3
    exact ⟨x, rfl, k H3 Hd3 ((g1.trans g2).trans g3)⟩⟩
/-- a value that is a truth, as a test -/
theorem dt_val (h : DE F ρ e (.ok (.bool x))) (he : ∀ whole, isTrue e F.X.env whole = (do let v ← whole; standAt e.pos; holding [v] (truthy v)) := by intro _; rfl) : DT F ρ e x :=
  ⟨pt_imp (pt_val h.pe he) fun σ H Q ⟨Hd, at0, k⟩ => tE_ok at0 fun v H1 Hd1 g1 d1 => by
    cases d1
    exact ⟨x, rfl, k H1 Hd1 g1⟩⟩
theorem dt_not (h : DT F ρ a x) : DT F ρ (.UnaryOp .Not a pos) (!x) := ⟨pt_imp (pt_not h.pt) fun σ H Q ⟨Hd, at0, k⟩ => ⟨Hd, at0, fun H1 Hd1 g1 => k H1 Hd1 g1⟩⟩
theorem dt_w (h : DW F ρ e x) : DT F ρ e x := ⟨h.pw.pt⟩
theorem dw_and1 (h : DT F ρ a x) : DW F ρ (.BoolOp .And [a] pos) x := ⟨pw_and1 h.pt⟩
theorem dw_or1 (h : DT F ρ a x) : DW F ρ (.BoolOp .Or [a] pos) x := ⟨pw_or1 h.pt⟩
theorem dw_and (h : DT F ρ a x) (t : x = true → DW F ρ (.BoolOp .And (b :: es) pos) y) : DW F ρ (.BoolOp .And (a :: b :: es) pos) (x && y) :=
  ⟨pw_imp (pw_and h.pt pw_u) fun σ H Q ⟨Hd, at0, k⟩ => tT_mk at0 fun H1 Hd1 g1 => by
    cases x with
    | true => exact ⟨_, (t rfl).pw, Hd1, at0.go g1, fun H2 Hd2 g2 => k H2 Hd2 (g1.trans g2)⟩
    | false => exact k H1 Hd1 g1⟩
theorem dw_andF (h : DT F ρ a false) : DW F ρ (.BoolOp .And (a :: b :: es) pos) false := dw_and (y := true) h fun z => nomatch z
theorem dw_andT (h : DT F ρ a true) (t : DW F ρ (.BoolOp .And (b :: es) pos) y) : DW F ρ (.BoolOp .And (a :: b :: es) pos) y := dw_and h fun _ => t
theorem dw_or (h : DT F ρ a x) (t : x = false → DW F ρ (.BoolOp .Or (b :: es) pos) y) : DW F ρ (.BoolOp .Or (a :: b :: es) pos) (x || y) :=
  ⟨pw_imp (pw_or h.pt pw_u) fun σ H Q ⟨Hd, at0, k⟩ => tT_mk at0 fun H1 Hd1 g1 => by
    cases x with
    | false => exact ⟨_, (t rfl).pw, Hd1, at0.go g1, fun H2 Hd2 g2 => k H2 Hd2 (g1.trans g2)⟩
    | true => exact k H1 Hd1 g1⟩
theorem dw_orT (h : DT F ρ a true) : DW F ρ (.BoolOp .Or (a :: b :: es) pos) true := dw_or (y := true) h fun z => nomatch z
theorem dw_orF (h : DT F ρ a false) (t : DW F ρ (.BoolOp .Or (b :: es) pos) y) : DW F ρ (.BoolOp .Or (a :: b :: es) pos) y := dw_or h fun _ => t
/-! ### truths as values -/
theorem de_one {op : BoolOp} {r : Res} (h : DE F ρ a r) : DE F ρ (.BoolOp op [a] pos) r := ⟨pe_one h.pe⟩
theorem de_and (h : DE F ρ a (.ok (.bool x))) (t : x = true → DE F ρ (.BoolOp .And (b :: es) pos) (.ok (.bool y))) : DE F ρ (.BoolOp .And (a :: b :: es) pos) (.ok (.bool (x && y))) :=
  ⟨pe_imp (pe_and h.pe pe_u) fun σ H Q ⟨Hd, at0, k⟩ => tE_ok at0 fun v H1 Hd1 g1 d1 => by
    cases d1
    refine ⟨x, rfl, ?_⟩
    cases x with
    | true => exact ⟨_, (t rfl).pe, Hd1, at0.go g1, fun v H2 Hd2 g2 d2 => k v H2 Hd2 (g1.trans g2) d2⟩
    | false => exact k _ H1 Hd1 g1 (.bl _)⟩
theorem de_andF (h : DE F ρ a (.ok (.bool false))) : DE F ρ (.BoolOp .And (a :: b :: es) pos) (.ok (.bool false)) := de_and (y := true) h fun z => nomatch z
theorem de_andT (h : DE F ρ a (.ok (.bool true))) (t : DE F ρ (.BoolOp .And (b :: es) pos) (.ok (.bool y))) : DE F ρ (.BoolOp .And (a :: b :: es) pos) (.ok (.bool y)) := de_and h fun _ => t
theorem de_or (h : DE F ρ a (.ok (.bool x))) (t : x = false → DE F ρ (.BoolOp .Or (b :: es) pos) (.ok (.bool y))) : DE F ρ (.BoolOp .Or (a :: b :: es) pos) (.ok (.bool (x || y))) :=
  ⟨pe_imp (pe_or h.pe pe_u) fun σ H Q ⟨Hd, at0, k⟩ => tE_ok at0 fun v H1 Hd1 g1 d1 => by
    cases d1
    refine ⟨x, rfl, ?_⟩
    cases x with
    | false => exact ⟨_, (t rfl).pe, Hd1, at0.go g1, fun v H2 Hd2 g2 d2 => k v H2 Hd2 (g1.trans g2) d2⟩
    | true => exact k _ H1 Hd1 g1 (.bl _)⟩
theorem de_orT (h : DE F ρ a (.ok (.bool true))) : DE F ρ (.BoolOp .Or (a :: b :: es) pos) (.ok (.bool true)) := de_or (y := true) h fun z => nomatch z
theorem de_orF (h : DE F ρ a (.ok (.bool false))) (t : DE F ρ (.BoolOp .Or (b :: es) pos) (.ok (.bool y))) : DE F ρ (.BoolOp .Or (a :: b :: es) pos) (.ok (.bool y)) := de_or h fun _ => t
theorem de_not (h : DE F ρ a (.ok (.bool x))) : DE F ρ (.UnaryOp .Not a pos) (.ok (.bool (!x))) := ⟨pe_imp (pe_not h.pe) fun σ H Q ⟨Hd, at0, k⟩ => tE_ok at0 fun v H1 Hd1 g1 d1 => by
  cases d1
  exact ⟨x, rfl, k _ H1 Hd1 g1 (.bl _)⟩⟩
theorem de_if (h : DT F ρ c x) (ha : x = true → DE F ρ a (.ok d1)) (hb : x = false → DE F ρ b (.ok d2)) : DE F ρ (.IfExp c a b pos) (.ok (if x = true then d1 else d2)) :=
  ⟨pe_imp (pe_ifExp h.pt pe_u pe_u) fun σ H Q ⟨Hd, at0, k⟩ => tT_mk at0 fun H1 Hd1 g1 => by
    cases x with
    | true => exact ⟨_, (ha rfl).pe, Hd1, at0.go g1, fun v H2 Hd2 g2 d2 => k v H2 Hd2 (g1.trans g2) d2⟩
    | false => exact ⟨_, (hb rfl).pe, Hd1, at0.go g1, fun v H2 Hd2 g2 d2 => k v H2 Hd2 (g1.trans g2) d2⟩⟩
theorem de_ifT {r : Res} (h : DT F ρ c true) (ha : DE F ρ a r) : DE F ρ (.IfExp c a b pos) r :=
  ⟨pe_imp (pe_ifExp h.pt ha.pe pe_u) fun σ H Q q => by
    cases r with
    | ok d => obtain ⟨Hd, at0, k⟩ := q; exact tT_mk at0 fun H1 Hd1 g1 => ⟨Hd1, at0.go g1, fun v H2 Hd2 g2 d2 => k v H2 Hd2 (g1.trans g2) d2⟩
    | er C => obtain ⟨Hd, at0, k⟩ := q; exact tT_mk at0 fun H1 Hd1 g1 => ⟨Hd1, at0.go g1, fun H2 Hd2 g2 => k H2 Hd2 (g1.trans g2)⟩⟩
theorem de_ifF {r : Res} (h : DT F ρ c false) (hb : DE F ρ b r) : DE F ρ (.IfExp c a b pos) r :=
  ⟨pe_imp (pe_ifExp h.pt pe_u hb.pe) fun σ H Q q => by
    cases r with
    | ok d => obtain ⟨Hd, at0, k⟩ := q; exact tT_mk at0 fun H1 Hd1 g1 => ⟨Hd1, at0.go g1, fun v H2 Hd2 g2 d2 => k v H2 Hd2 (g1.trans g2) d2⟩
    | er C => obtain ⟨Hd, at0, k⟩ := q; exact tT_mk at0 fun H1 Hd1 g1 => ⟨Hd1, at0.go g1, fun H2 Hd2 g2 => k H2 Hd2 (g1.trans g2)⟩⟩
/-- a chain of two comparisons -/
theorem de_chain {op op' : CmpOp} (ha : DE F ρ a (.ok da)) (hb : DE F ρ b (.ok db)) (hc : DE F ρ c (.ok dc)) (h1 : BinD F.X (compareOp op) da db (.bool x)) (h2 : BinD F.X (compareOp op') db dc (.bool y))
    (hm : lastMarks [op, op'] [b, c] = false := by with_unfolding_all rfl) : DE F ρ (.Compare a [op, op'] [b, c] pos) (.ok (.bool (x && y))) := by
  obtain ⟨r, o, q⟩ := h1
  obtain ⟨r', o', q'⟩ := h2
  exact ⟨pe_imp (pe_chain o o' ha.pe hb.pe hc.pe hm) fun σ H Q ⟨Hd, at0, k⟩ => tE_ok at0 fun v H1 Hd1 g1 d1 => tE_ok (at0.go g1) fun u H2 Hd2 g2 d2 => by
    refine q v u H2 Hd2 _ g2.dh (d1.mono g2.dd) d2 fun z H3 Hd3 g3 d3 => ?_
    cases d3
    refine ⟨x, rfl, ?_⟩
    cases x with
    | false => exact k _ H3 Hd3 ((g1.trans g2).trans g3) (.bl _)
    | true => exact tE_ok (((at0.go g1).go g2).go g3) fun w H4 Hd4 g4 d4 => q' u w H4 Hd4 _ g4.dh (d2.mono (g3.dd.trans g4.dd)) d4 fun z H5 Hd5 g5 d5 => k z H5 Hd5 ((((g1.trans g2).trans g3).trans g4).trans g5) d5⟩
theorem dt_chain {op op' : CmpOp} (ha : DE F ρ a (.ok da)) (hb : DE F ρ b (.ok db)) (hc : DE F ρ c (.ok dc)) (h1 : BinD F.X (compareOp op) da db (.bool x)) (h2 : BinD F.X (compareOp op') db dc (.bool y))
    (hm : lastMarks [op, op'] [b, c] = false := by with_unfolding_all rfl) : DT F ρ (.Compare a [op, op'] [b, c] pos) (x && y) := by
  obtain ⟨r, o, q⟩ := h1
  obtain ⟨r', o', q'⟩ := h2
  refine ⟨pt_imp (pt_chain o o' ha.pe hb.pe hc.pe hm) fun σ H Q h => ?_⟩
  obtain ⟨Hd, at0, k⟩ := h
  refine tE_ok at0 fun v H1 Hd1 g1 d1 => ?_
  refine tE_ok (at0.go g1) fun u H2 Hd2 g2 d2 => ?_
  refine q v u H2 Hd2 _ g2.dh (d1.mono g2.dd) d2 fun z H3 Hd3 g3 d3 => ?_
  cases d3
  refine ⟨x, rfl, ?_⟩
  cases x with
  | false => exact ⟨false, rfl, k H3 Hd3 ((g1.trans g2).trans g3)⟩
  | true =>
    refine tE_ok (((at0.go g1).go g2).go g3) fun w H4 Hd4 g4 d4 => ?_
    refine q' u w H4 Hd4 _ g4.dh (d2.mono (g3.dd.trans g4.dd)) d4 fun z H5 Hd5 g5 d5 => ?_
    cases d5
    exact ⟨y, rfl, k H5 Hd5 ((((g1.trans g2).trans g3).trans g4).trans g5)⟩

/-! ### built-in functions -/
def tyD : PyData → String
  | .none => "NoneType" | .bool _ => "bool" | .int _ => "int" | .str _ => "str" | .list _ => "list" | .tuple _ => "tuple" | .dict _ => "dict"
theorem Dt.ty {K : PySem.W.Frag} {H : Hp} {v : V} {d : PyData} (h : Dt K H v d) : TyX K H v (.type (tyD d)) := by
  cases h with
  | non => exact .base .non
  | bl b => exact .base (.bl b)
  | int i => exact .base (.int i)
  | str s => exact .base (.str s)
  | lst r _ =>
    rcases r with (r | ⟨o, r⟩) | ⟨o, _, _, r, c, _⟩
    · exact .base (.lst r)
    · exact .base (.frz r)
    · exact .kList r c
  | tup r _ =>
    rcases r with r | ⟨o, r⟩
    · exact .base (.tup r)
    · exact .fTuple r
  | dic r _ => exact .base (.dK r)
theorem de_isi {T : String} {p p2 : Pos} {t : Str} (ha : DE F ρ a (.ok d)) (hk : kitB (tyD d) T = some x) (hv : bootBuiltins t = some (.type T)) (hm : F.X.mg t = none) (hg : Gl F.X "isinstance" := by rfl) (ht : Gl F.X t := by rfl)
    (h1 : starEach [a, .Name t p2] F.X.env = (false, eval a F.X.env) :: starEach [.Name t p2] F.X.env := by rfl) (h3 : t ≠ "__name__" := by decide) (h4 : (t == ("__debug__" : Str)) = false := by decide)
    (h2 : (backTo pos (starEach [.Name t p2] F.X.env)).any (·.1) = false := by rfl) : DE F ρ (.Call (.Name "isinstance" p) [a, .Name t p2] [] pos) (.ok (.bool x)) :=
  ⟨pe_imp (pe_callB call_isi hg F.bl.isi (by decide +kernel) (pa_cons ha.pe (pa_cons (pe_bltn (v := .ty T) ht hm hv rfl h3 h4) pa_nil) h1) (he := h1) (hpl := h2)) fun σ H Q ⟨Hd, at0, k⟩ => tE_ok at0 fun v H1 Hd1 g1 d1 =>
    ⟨v, .ty T, .type (tyD d), .type T, x, rfl, .ty T, (d1.mono g1.dh).ty, kit_ty hk, k _ H1 Hd1 g1 (.bl x)⟩⟩
/-- a built-in function of data -/
def CalD (X : Cx) (f : Value) (ds : List PyData) (dz : PyData) : Prop := ∃ r, CallR X f r ∧ RdA X.K r ds dz
theorem de_callB {id : String} {t : Str} {p : Pos} {ds : List PyData} {dz : PyData} (ha : DA F ρ (e :: es) ds) (h : CalD F.X (.builtin id) ds dz) (hm : F.X.mg t = none) (hv : bootBuiltins t = some (.builtin id)) (hg : Gl F.X t := by rfl)
    (hn : t ≠ "__name__" := by decide) (hdb : (t == ("__debug__" : Str)) = false := by decide) (he : starEach (e :: es) F.X.env = (false, eval e F.X.env) :: starEach es F.X.env := by rfl)
    (hpl : (backTo pos (starEach es F.X.env)).any (·.1) = false := by rfl) : DE F ρ (.Call (.Name t p) (e :: es) [] pos) (.ok dz) := by
  obtain ⟨r, o, q⟩ := h
  exact de_args (pe_callB o hg hm hv ha.pa hn hdb he hpl) q
theorem de_callT {T : String} {t : Str} {p : Pos} {ds : List PyData} {dz : PyData} (ha : DA F ρ (e :: es) ds) (h : CalD F.X (.type T) ds dz) (hm : F.X.mg t = none) (hv : bootBuiltins t = some (.type T)) (hg : Gl F.X t := by rfl)
    (hn : t ≠ "__name__" := by decide) (hdb : (t == ("__debug__" : Str)) = false := by decide) (he : starEach (e :: es) F.X.env = (false, eval e F.X.env) :: starEach es F.X.env := by rfl)
    (hpl : (backTo pos (starEach es F.X.env)).any (·.1) = false := by rfl) : DE F ρ (.Call (.Name t p) (e :: es) [] pos) (.ok dz) := by
  obtain ⟨r, o, q⟩ := h
  exact de_args (pe_callTy o hg hm hv ha.pa hn hdb he hpl) q
theorem DtA.one {K : PySem.W.Frag} {H : Hp} {xs : List V} (h : DtA K H xs [d]) : ∃ v, xs = [v] ∧ Dt K H v d := by
  cases h with
  | cons q r => cases r; exact ⟨_, rfl, q⟩
theorem DtA.two {K : PySem.W.Frag} {H : Hp} {xs : List V} (h : DtA K H xs [d, d1]) : ∃ v u, xs = [v, u] ∧ Dt K H v d ∧ Dt K H u d1 := by
  cases h with
  | cons q r =>
    obtain ⟨u, e, q2⟩ := r.one
    subst e
    exact ⟨_, _, rfl, q, q2⟩
variable {X : Cx}
theorem cd_lenL {ds : List PyData} : CalD X (.builtin "len") [.list ds] (.int ds.length) := ⟨_, call_len_seq, fun xs H Hd Q s dx k => by
  obtain ⟨v, rfl, q⟩ := dx.one
  cases q with
  | lst r q => exact ⟨_, _, rfl, .inl (s.seq r), k _ H Hd (.refl s) (by rw [q.len]; exact .int _)⟩⟩
theorem cd_lenU {ds : List PyData} : CalD X (.builtin "len") [.tuple ds] (.int ds.length) := ⟨_, call_len, fun xs H Hd Q s dx k => by
  obtain ⟨v, rfl, q⟩ := dx.one
  cases q with
  | tup r q => exact ⟨_, ds.length, rfl, .inr ⟨_, .inl (Rd.mono r s), q.len.symm⟩, k _ H Hd (.refl s) (.int _)⟩⟩
theorem cd_lenS {z : Str} (hz : z.length ≤ sizeLine) : CalD X (.builtin "len") [.str z] (.int z.length) := ⟨_, call_len, fun xs H Hd Q s dx k => by
  obtain ⟨v, rfl, q⟩ := dx.one
  cases q
  exact ⟨_, z.length, rfl, ⟨hz, rfl⟩, k _ H Hd (.refl s) (.int _)⟩⟩
theorem cd_abs {i : Int} : CalD X (.builtin "abs") [.int i] (.int (if i < 0 then -i else i)) := ⟨_, call_abs, fun xs H Hd Q s dx k => by
  obtain ⟨v, rfl, q⟩ := dx.one
  cases q
  exact ⟨i, rfl, k _ H Hd (.refl s) (.int _)⟩⟩
theorem cd_min {i j : Int} (hc : X.calm = true) : CalD X (.builtin "min") [.int i, .int j] (.int (if j < i then j else i)) := ⟨_, call_min2 hc, fun xs H Hd Q s dx k => by
  obtain ⟨v, u, rfl, q, q2⟩ := dx.two
  cases q; cases q2
  exact ⟨i, j, rfl, k _ H Hd (.refl s) (.int _)⟩⟩
theorem cd_max {i j : Int} (hc : X.calm = true) : CalD X (.builtin "max") [.int i, .int j] (.int (if j > i then j else i)) := ⟨_, call_max2 hc, fun xs H Hd Q s dx k => by
  obtain ⟨v, u, rfl, q, q2⟩ := dx.two
  cases q; cases q2
  exact ⟨i, j, rfl, k _ H Hd (.refl s) (.int _)⟩⟩
theorem cd_intB {i : Bool} : CalD X (.type "int") [.bool i] (.int (if i then 1 else 0)) := ⟨_, call_int1, fun xs H Hd Q s dx k => by
  obtain ⟨v, rfl, q⟩ := dx.one
  cases q
  exact .inr ⟨i, rfl, k _ H Hd (.refl s) (.int _)⟩⟩
theorem cd_intT {z : Str} {n : Int} (h : PySem.intText? z = some n) (hz : z.length ≤ 640) : CalD X (.type "int") [.str z] (.int n) := ⟨_, call_int_str, fun xs H Hd Q s dx k => by
  obtain ⟨v, rfl, q⟩ := dx.one
  cases q
  exact ⟨z, n, rfl, h, hz, k _ H Hd (.refl s) (.int _)⟩⟩
theorem cd_strI {i : Int} (h : i.natAbs.log2 < 1920) : CalD X (.type "str") [.int i] (.str (toString i)) := ⟨_, call_str_int, fun xs H Hd Q s dx k => by
  obtain ⟨v, rfl, q⟩ := dx.one
  cases q
  exact ⟨i, rfl, h, k _ H Hd (.refl s) (.str _)⟩⟩
theorem cd_listL {ds : List PyData} : CalD X (.type "list") [.list ds] (.list ds) := ⟨_, call_list_of, fun xs H Hd Q s dx k => by
  obtain ⟨v, rfl, q⟩ := dx.one
  cases q with
  | lst r q => exact ⟨_, _, rfl, .inl (s.seq r), fun p hp => k _ _ _ (.new s hp) (.lst (.inl (.inl upd_same)) (q.mono (Same.upd (s.free hp))))⟩⟩
theorem cd_listU {ds : List PyData} : CalD X (.type "list") [.tuple ds] (.list ds) := ⟨_, call_list_of, fun xs H Hd Q s dx k => by
  obtain ⟨v, rfl, q⟩ := dx.one
  cases q with
  | tup r q => exact ⟨_, _, rfl, .inr (.inl (Rd.mono r s)), fun p hp => k _ _ _ (.new s hp) (.lst (.inl (.inl upd_same)) (q.mono (Same.upd (s.free hp))))⟩⟩
theorem cd_tupleL {ds : List PyData} : CalD X (.type "tuple") [.list ds] (.tuple ds) := ⟨_, call_tuple_of, fun xs H Hd Q s dx k => by
  obtain ⟨v, rfl, q⟩ := dx.one
  cases q with
  | lst r q => exact ⟨_, _, rfl, .inl ⟨s.seq r, fun p hp => k _ _ _ (.new s hp) (.tup (.inl upd_same) (q.mono (Same.upd (s.free hp))))⟩⟩⟩
/-- list(range(a, b)) -/
def rangeD (i j : Int) : List PyData := (List.range (j - i).toNat).map fun k => .int (i + (k : Nat))
theorem rgV_dt {K : PySem.W.Frag} {H : Hp} (i j : Int) : DtA K H (rgV i j) (rangeD i j) := by
  unfold rgV rangeD
  induction (List.range (j - i).toNat) with
  | nil => exact .nil
  | cons n r ih => exact .cons (.int _) ih
theorem de_listRg1 {i : Int} {p p2 p3 : Pos} (hc : F.X.calm = true) (ha : DE F ρ a (.ok (.int i))) (hz : RgOk 0 i) (hg : Gl F.X "list" := by rfl) (hg2 : Gl F.X "range" := by rfl)
    (na : starEach [.Call (.Name "range" p2) [a] [] p3] F.X.env = (false, eval (.Call (.Name "range" p2) [a] [] p3) F.X.env) :: starEach [] F.X.env := by rfl) (nb : starEach [a] F.X.env = (false, eval a F.X.env) :: starEach [] F.X.env := by rfl) :
    DE F ρ (.Call (.Name "list" p) [.Call (.Name "range" p2) [a] [] p3] [] pos) (.ok (.list (rangeD 0 i))) :=
  ⟨pe_imp (pe_listRg hc hg F.bl.list (prg_1 hg2 F.bl.range ha.pe (na := nb)) (na := na)) fun σ H Q ⟨Hd, at0, k⟩ => tE_ok at0 fun v H1 Hd1 g1 d1 => by
    cases d1
    exact ⟨i, rfl, hz, fun p hp => k _ _ _ (g1.trans (.new g1.dh hp)) (.lst (.inl (.inl upd_same)) (rgV_dt 0 i))⟩⟩
theorem de_listRg2 {i j : Int} {p p2 p3 : Pos} (hc : F.X.calm = true) (ha : DE F ρ a (.ok (.int i))) (hb : DE F ρ b (.ok (.int j))) (hz : RgOk i j) (hg : Gl F.X "list" := by rfl) (hg2 : Gl F.X "range" := by rfl)
    (na : starEach [.Call (.Name "range" p2) [a, b] [] p3] F.X.env = (false, eval (.Call (.Name "range" p2) [a, b] [] p3) F.X.env) :: starEach [] F.X.env := by rfl) (nb : starEach [a, b] F.X.env = (false, eval a F.X.env) :: starEach [b] F.X.env := by rfl)
    (nc : starEach [b] F.X.env = (false, eval b F.X.env) :: starEach [] F.X.env := by rfl) (nd : (backTo p3 (starEach [b] F.X.env)).any (·.1) = false := by rfl) :
    DE F ρ (.Call (.Name "list" p) [.Call (.Name "range" p2) [a, b] [] p3] [] pos) (.ok (.list (rangeD i j))) :=
  ⟨pe_imp (pe_listRg hc hg F.bl.list (prg_2 hg2 F.bl.range ha.pe hb.pe (na := nb) (nb := nc) (hp := nd)) (na := na)) fun σ H Q ⟨Hd, at0, k⟩ => tE_ok at0 fun v H1 Hd1 g1 d1 => tE_ok (at0.go g1) fun u H2 Hd2 g2 d2 => by
    cases d1; cases d2
    exact ⟨i, j, rfl, rfl, hz, fun p hp => k _ _ _ ((g1.trans g2).trans (.new g2.dh hp)) (.lst (.inl (.inl upd_same)) (rgV_dt i j))⟩⟩
end

/-! ### defs whose worth is data -/
def Ends0 (K : PySem.W.Frag) (r : Res) (H Hd : Hp) (Q : VK) (E : XK) : Prop := match r with
  | .ok d => ∀ v H' Hd', Grw H Hd H' Hd' → Dt K Hd' v d → Q v H'
  | .er C => ∀ H' Hd', Grw H Hd H' Hd' → E (.ref C) none H'
def spD (K : PySem.W.Frag) (g : List PyData → Res → Prop) : Sp := fun vs H Q E => ∃ Hd ds r, Same Hd H ∧ DtA K Hd vs ds ∧ g ds r ∧ Ends0 K r H Hd Q E
structure Pfn (P : Program) (w : World) (K : PySem.W.Frag) (mg : Str → Option Value) (base : Heap) (x : Str) (k : Nat) (g : List PyData → Res → Prop) : Prop where
  ex : ∃ f fd ps, mg x = some (.ref f) ∧ PySem.W.keepIn K (.ref f) = true ∧ Binds K fd ps [] ∧ FnOk P w K mg base (L2N.CX P w) k f fd ps (spD K g)
section
variable {F : Fr} {ρ : List Sl} {pos : Pos} {e : Expr} {es : List Expr}
theorem de_call {x : Str} {p : Pos} {k : Nat} {g : List PyData → Res → Prop} {ds : List PyData} {r : Res} (f : Pfn F.X.prog F.X.w F.X.K F.X.mg F.X.base x k g) (hr : Room k F.X.A) (ha : DA F ρ (e :: es) ds) (q : g ds r) (hg : Gl F.X x := by rfl)
    (hdb : (x == ("__debug__" : Str)) = false := by decide) (he : starEach (e :: es) F.X.env = (false, eval e F.X.env) :: starEach es F.X.env := by rfl) (hpl : (backTo pos (starEach es F.X.env)).any (·.1) = false := by rfl) :
    DE F ρ (.Call (.Name x p) (e :: es) [] pos) r := by
  obtain ⟨fa, fd, ps, hm, hk, hb, hf⟩ := f.ex
  refine ⟨pe_imp (pe_callS hf hr hg hm hk hb (fun σ => L2N.passAt F.tk σ) ha.pa hdb he hpl) fun σ H Q h => ?_⟩
  cases r with
  | ok d =>
    obtain ⟨Hd, at0, k⟩ := h
    exact ⟨Hd, at0, fun vs H1 Hd1 g1 dvs => ⟨Hd1, ds, .ok d, g1.dh, dvs, q, fun v H2 Hd2 g2 dv => k v H2 Hd2 (g1.trans g2) dv⟩⟩
  | er C =>
    obtain ⟨Hd, at0, k⟩ := h
    exact ⟨Hd, at0, fun vs H1 Hd1 g1 dvs => ⟨Hd1, ds, .er C, g1.dh, dvs, q, fun H2 Hd2 g2 => k H2 Hd2 (g1.trans g2)⟩⟩
end
end Dv
namespace Dv
open PySem L2

/-! ### blocks -/
inductive Out where
  | ret (d : PyData) | nx (ρ : List Sl) | bk (ρ : List Sl) | ct (ρ : List Sl) | er (C : Addr)
def kO (K : PySem.W.Frag) (w : Ow) (D : Ends) (H Hd : Hp) : Out → Prop
  | .ret d => ∀ v H' Hd', Grw H Hd H' Hd' → Dt K Hd' v d → D.rt v H'
  | .nx ρ => ∀ σ' H' Hd', Grw H Hd H' Hd' → EnvD K Hd' σ' ρ → D.nx σ' H'
  | .bk ρ => ∀ σ' H' Hd', Grw H Hd H' Hd' → EnvD K Hd' σ' ρ → D.bk σ' H'
  | .ct ρ => ∀ σ' H' Hd', Grw H Hd H' Hd' → EnvD K Hd' σ' ρ → D.ct σ' H'
  | .er C => ∀ σ' H' Hd', Grw H Hd H' Hd' → w.W (.ref C) none σ' H'
theorem kO.go {K : PySem.W.Frag} {w : Ow} {D : Ends} {H Hd H' Hd' : Hp} {o : Out} (k : kO K w D H Hd o) (g : Grw H Hd H' Hd') : kO K w D H' Hd' o := by
  cases o with
  | ret d => exact fun v H2 Hd2 g2 => k v H2 Hd2 (g.trans g2)
  | nx ρ => exact fun v H2 Hd2 g2 => k v H2 Hd2 (g.trans g2)
  | bk ρ => exact fun v H2 Hd2 g2 => k v H2 Hd2 (g.trans g2)
  | ct ρ => exact fun v H2 Hd2 g2 => k v H2 Hd2 (g.trans g2)
  | er C => exact fun v H2 Hd2 g2 => k v H2 Hd2 (g.trans g2)
def tO (K : PySem.W.Frag) (w : Ow) (ρ : List Sl) (o : Out) : TS := fun D σ H => ∃ Hd, At K w ρ σ H Hd ∧ kO K w D H Hd o
structure DB (F : Fr) (ρ : List Sl) (sts : List Stmt) (o : Out) : Prop where
  pb : PSs F.X sts (tO F.X.K F.o ρ o)
structure DS (F : Fr) (ρ : List Sl) (st : Stmt) (o : Out) : Prop where
  ps : PS F.X st (tO F.X.K F.o ρ o)
/-- behind a part that ends so, the rest ends so -/
def Aft (F : Fr) (ρ : List Sl) (oa : Out) (rest : List Stmt) (o : Out) : Prop := ∀ D σ H, tO F.X.K F.o ρ o D σ H → tO F.X.K F.o ρ oa { D with nx := uB F.X rest D } σ H
section
variable {F : Fr} {ρ ρ' : List Sl} {pos : Pos} {e c : Expr} {rest A B : List Stmt} {o oa ob o1 o2 : Out} {d : PyData} {C : Addr} {x : Bool} {st : Stmt}
theorem aft_ret : Aft F ρ (.ret d) rest (.ret d) := fun D σ H h => h
theorem aft_er : Aft F ρ (.er C) rest (.er C) := fun D σ H h => h
theorem aft_bk : Aft F ρ (.bk ρ') rest (.bk ρ') := fun D σ H h => h
theorem aft_ct : Aft F ρ (.ct ρ') rest (.ct ρ') := fun D σ H h => h
theorem aft_nx (h : DB F ρ' rest o) : Aft F ρ (.nx ρ') rest o := fun D σ H ⟨Hd, a, k⟩ => ⟨Hd, a, fun σ' H' Hd' g e => ⟨_, h.pb, Hd', ⟨g.dh, e, F.o.st a.p g⟩, k.go g⟩⟩
theorem aft_if (h1 : x = true → Aft F ρ oa rest o1) (h2 : x = false → Aft F ρ ob rest o2) : Aft F ρ (if x = true then oa else ob) rest (if x = true then o1 else o2) := by
  cases x with
  | true => exact h1 rfl
  | false => exact h2 rfl
theorem db_seq (h : DS F ρ st oa) (a : Aft F ρ oa rest o) : DB F ρ (st :: rest) o := ⟨pss_imp (pss_cons h.ps pss_u) fun D σ H q => a D σ H q⟩
theorem db_nil : DB F ρ [] (.nx ρ) := ⟨pss_imp pss_nil fun D σ H ⟨Hd, a, k⟩ => k σ H Hd (.refl a.s) a.e⟩
theorem db_one (h : DS F ρ st o) : DB F ρ [st] o := ⟨pss_one h.ps⟩
/-- an end that is known otherwise -/
theorem DB.to (h : DB F ρ A oa) (e : oa = o) : DB F ρ A o := e ▸ h
theorem DB.wk {ρ0 : List Sl} (h : DB F ρ' A o) (w : Wk ρ ρ') : DB F ρ A o := ⟨pss_imp h.pb fun D σ H ⟨Hd, a, k⟩ => ⟨Hd, a.env (EnvD.wk a.e w), k⟩⟩

/-! ### statements -/
theorem ds_ret (h : DE F ρ e (.ok d)) : DS F ρ (.Return (some e) pos) (.ret d) := ⟨ps_imp (ps_ret h.pe) fun D σ H ⟨Hd, a, k⟩ => tE_ok a k⟩
theorem ds_retE (h : DE F ρ e (.er C)) : DS F ρ (.Return (some e) pos) (.er C) := ⟨ps_imp (ps_ret h.pe) fun D σ H ⟨Hd, a, k⟩ => ⟨Hd, a, fun H' Hd' g => k σ H' Hd' g⟩⟩
theorem ds_expr (h : DE F ρ e (.ok d)) (hs : swapsWith e none pos.line F.X.env = pure false := by rfl) : DS F ρ (.Expr e pos) (.nx ρ) := ⟨ps_imp (ps_expr h.pe hs) fun D σ H ⟨Hd, a, k⟩ => tE_ok a fun v H1 Hd1 g1 _ => k σ H1 Hd1 g1 (a.e.mono g1.dd)⟩
theorem ds_exprE (h : DE F ρ e (.er C)) (hs : swapsWith e none pos.line F.X.env = pure false := by rfl) : DS F ρ (.Expr e pos) (.er C) := ⟨ps_imp (ps_expr h.pe hs) fun D σ H ⟨Hd, a, k⟩ => ⟨Hd, a, fun H' Hd' g => k σ H' Hd' g⟩⟩
theorem ds_asg {i : Nat} {y : Str} {p : Pos} (h : DE F ρ e (.ok d)) (hi : F.X.N[i]? = some y) (hx : Loc F.X.env.scope y) (hf : F.X.fn y = true ∨ F.X.env.scope.names.lookup y = some .local := by first | exact .inl rfl | exact .inr rfl)
    (hs : swapsWithSole [.Name y p] e pos.line F.X.env = pure false := by rfl) (hw : swappedStores [.Name y p] e F.X.env = pure none := by rfl) (h1 : (assignEach [.Name y p] F.X.env).map (·.2) = [assign (.Name y p) F.X.env] := by rfl) : DS F ρ (.Assign [.Name y p] e pos) (.nx (ρ.set i (.da d))) :=
  ⟨ps_imp (ps_asg h.pe (pg_name F.nd hi hx hf) hs hw h1) fun D σ H ⟨Hd, a, k⟩ => tE_ok a fun v H1 Hd1 g1 dv => k _ H1 Hd1 g1 (EnvD.set i (a.e.mono g1.dd) ⟨v, rfl, dv⟩)⟩
theorem ds_asgE {i : Nat} {y : Str} {p : Pos} (h : DE F ρ e (.er C)) (hi : F.X.N[i]? = some y) (hx : Loc F.X.env.scope y) (hf : F.X.fn y = true ∨ F.X.env.scope.names.lookup y = some .local := by first | exact .inl rfl | exact .inr rfl)
    (hs : swapsWithSole [.Name y p] e pos.line F.X.env = pure false := by rfl) (hw : swappedStores [.Name y p] e F.X.env = pure none := by rfl) (h1 : (assignEach [.Name y p] F.X.env).map (·.2) = [assign (.Name y p) F.X.env] := by rfl) : DS F ρ (.Assign [.Name y p] e pos) (.er C) :=
  ⟨ps_imp (ps_asg h.pe (pg_name F.nd hi hx hf) hs hw h1) fun D σ H ⟨Hd, a, k⟩ => ⟨Hd, a, fun H' Hd' g => k σ H' Hd' g⟩⟩
theorem ds_pass : DS F ρ (.Pass pos) (.nx ρ) := ⟨ps_imp ps_pass fun D σ H ⟨Hd, a, k⟩ => k σ H Hd (.refl a.s) a.e⟩
theorem ds_cont : DS F ρ (.Continue pos) (.ct ρ) := ⟨ps_imp ps_continue fun D σ H ⟨Hd, a, k⟩ => k σ H Hd (.refl a.s) a.e⟩
theorem ds_brk : DS F ρ (.Break pos) (.bk ρ) := ⟨ps_imp ps_break fun D σ H ⟨Hd, a, k⟩ => k σ H Hd (.refl a.s) a.e⟩
theorem ds_doc {t : Str} {j : Nat} {p : Pos} : DS F ρ (.Expr (.Constant (.str t) j p) pos) (.nx ρ) := ⟨ps_imp ps_doc fun D σ H ⟨Hd, a, k⟩ => k σ H Hd (.refl a.s) a.e⟩
theorem ds_if (h : DT F ρ c x) (ha : x = true → DB F ρ A oa) (hb : x = false → DB F ρ B ob) : DS F ρ (.If c A B pos) (if x = true then oa else ob) :=
  ⟨ps_imp (ps_if h.pt pss_u pss_u) fun D σ H ⟨Hd, a, k⟩ => tT_mk a fun H1 Hd1 g1 => by
    cases x with
    | true => exact ⟨_, (ha rfl).pb, Hd1, a.go g1, kO.go (o := oa) k g1⟩
    | false => exact ⟨_, (hb rfl).pb, Hd1, a.go g1, kO.go (o := ob) k g1⟩⟩
theorem ds_ifT (h : DT F ρ c true) (ha : DB F ρ A oa) : DS F ρ (.If c A B pos) oa :=
  ⟨ps_imp (ps_if h.pt ha.pb pss_u) fun D σ H ⟨Hd, a, k⟩ => tT_mk a fun H1 Hd1 g1 => ⟨Hd1, a.go g1, k.go g1⟩⟩
theorem ds_ifF (h : DT F ρ c false) (hb : DB F ρ B ob) : DS F ρ (.If c A B pos) ob :=
  ⟨ps_imp (ps_if h.pt pss_u hb.pb) fun D σ H ⟨Hd, a, k⟩ => tT_mk a fun H1 Hd1 g1 => ⟨Hd1, a.go g1, k.go g1⟩⟩
/-- if c: y = e, told by the value -/
theorem ds_ifSet {i : Nat} {d0 d1 : PyData} (h : DT F ρ c x) (ha : x = true → DB F ρ A (.nx (ρ.set i (.da d1)))) (h0 : ρ[i]? = some (.da d0)) : DS F ρ (.If c A [] pos) (.nx (ρ.set i (.da (if x = true then d1 else d0)))) := by
  cases x with
  | true => exact ds_ifT h (ha rfl)
  | false =>
    have e : ρ.set i (.da d0) = ρ := by
      obtain ⟨hi, e⟩ := List.getElem?_eq_some_iff.mp h0
      rw [← e, List.set_getElem_self]
    refine ds_ifF h ?_
    show DB F ρ [] (.nx (ρ.set i (.da d0)))
    rw [e]
    exact db_nil
/-- raise C('..') -/
theorem ds_raise {y m : Str} {j : Nat} {p p2 pos2 : Pos} {newId initId : String} {bmB : List Value} (hc : F.X.calm = true) (Fb : ExcBaseFacts "ValueError" newId initId bmB) (q : PySem.W.excIn F.X.K C bmB newId = true) (gC : F.X.mg y = some (.ref C)) (kC : PySem.W.keepIn F.X.K (.ref C) = true)
    (r : Raises F.X (.ref C)) (hg : Gl F.X y := by rfl) (hdb : (y == ("__debug__" : Str)) = false := by decide) : DS F ρ (.Raise (some (.Call (.Name y p) [.Constant (.str m) j p2] [] pos2)) none pos) (.er C) :=
  ⟨ps_imp (L2N.ps_raise hc F.tk (L2N.pmk_own Fb q gC kC r hg hdb)) fun D σ H ⟨Hd, a, k⟩ => k σ H Hd (.refl a.s)⟩

/-! ### what is walked: data one by one -/
def Walks (K : PySem.W.Frag) (J : It) (Hd1 : Hp) (ds : List PyData) : Prop := ∀ i H2 Hd2, Same Hd1 Hd2 → Same Hd2 H2 →
  (∀ d, ds[i]? = some d → J.go i H2 ∧ ∀ v H', J.yld i H2 v H' → ∃ Hd', Grw H2 Hd2 H' Hd' ∧ Dt K Hd' v d) ∧ (ds.length ≤ i → J.stop i H2)
def SrcOk (K : PySem.W.Frag) (w : Ow) (ρ : List Sl) (wi : TI) (ds : List PyData) : Prop := ∀ σ H Hd (R : It → Hp → Prop), At K w ρ σ H Hd → (∀ J H1 Hd1, Grw H Hd H1 Hd1 → Walks K J Hd1 ds → R J H1) → wi σ H R
structure DI (F : Fr) (ρ : List Sl) (tg iter : Expr) (ds : List PyData) : Prop where
  ex : ∃ wi, PI F.X tg iter wi ∧ SrcOk F.X.K F.o ρ wi ds
theorem di_list {tg : Expr} {ds : List PyData} (h : DE F ρ e (.ok (.list ds))) : DI F ρ tg e ds := ⟨_, pi_list h.pe, fun σ H Hd R a k => tE_ok a fun v H1 Hd1 g1 d1 => by
  cases d1 with
  | @lst b xs _ r q =>
    refine ⟨b, rfl, ⟨xs, Same.seq g1.dh r⟩, k _ H1 Hd1 g1 fun i H2 Hd2 s1 s2 => ⟨fun d e => ?_, fun hl => ⟨xs, Same.seq (s1.trans s2) r, by rw [q.len]; exact hl⟩⟩⟩
    obtain ⟨v, e1, q1⟩ := q.get e
    refine ⟨⟨xs, v, Same.seq (s1.trans s2) r, e1⟩, fun u H' y => ?_⟩
    obtain ⟨eH, y⟩ := y
    subst eH
    have e2 := y xs (Same.seq (s1.trans s2) r)
    rw [e1] at e2
    cases e2
    exact ⟨Hd2, .refl s2, q1.mono s1⟩⟩
theorem di_tup {tg : Expr} {ds : List PyData} (h : DE F ρ e (.ok (.tuple ds))) : DI F ρ tg e ds := ⟨_, pi_tup h.pe, fun σ H Hd R a k => tE_ok a fun v H1 Hd1 g1 d1 => by
  cases d1 with
  | @tup b xs _ r q =>
    refine ⟨b, rfl, ⟨xs, .inl (Rd.mono r g1.dh)⟩, k _ H1 Hd1 g1 fun i H2 Hd2 s1 s2 => ⟨fun d e => ?_, fun hl => ⟨xs, .inl (Rd.mono r (s1.trans s2)), by rw [q.len]; exact hl⟩⟩⟩
    obtain ⟨v, e1, q1⟩ := q.get e
    refine ⟨⟨xs, v, .inl (Rd.mono r (s1.trans s2)), e1⟩, fun u H' y => ?_⟩
    obtain ⟨eH, y⟩ := y
    subst eH
    have e2 := y xs (.inl (Rd.mono r (s1.trans s2)))
    rw [e1] at e2
    cases e2
    exact ⟨Hd2, .refl s2, q1.mono s1⟩⟩
/-- the signs of a text -/
def signs (z : Str) : List PyData := z.cps.toList.map fun c => .str ⟨#[c]⟩
theorem di_str {tg : Expr} {z : Str} (h : DE F ρ e (.ok (.str z))) : DI F ρ tg e (signs z) := ⟨_, pi_str h.pe, fun σ H Hd R a k => tE_ok a fun v H1 Hd1 g1 d1 => by
  cases d1
  refine ⟨z, rfl, k _ H1 Hd1 g1 fun i H2 Hd2 s1 s2 => ⟨fun d e => ?_, fun hl => by show z.cps.size ≤ i; simpa [signs] using hl⟩⟩
  unfold signs at e
  rw [List.getElem?_map] at e
  cases q : z.cps.toList[i]? with
  | none => rw [q] at e; cases e
  | some c =>
    rw [q] at e
    cases e
    have q' : z.cps[i]? = some c := by simpa using q
    refine ⟨(Array.getElem?_eq_some_iff.mp q').1, fun u H' y => ?_⟩
    obtain ⟨eH, c', e1, e2⟩ := y
    subst eH e2
    rw [q'] at e1
    cases e1
    exact ⟨Hd2, .refl s2, .str _⟩⟩
theorem di_range1 {tg a : Expr} {n : Int} {p pos : Pos} (h : DE F ρ a (.ok (.int n))) (hz : -(2 ^ 62) ≤ n ∧ n < 2 ^ 62) (hg : Gl F.X "range" := by rfl) (na : starEach [a] F.X.env = (false, eval a F.X.env) :: starEach [] F.X.env := by rfl) : DI F ρ tg (.Call (.Name "range" p) [a] [] pos) (rangeD 0 n) :=
  ⟨_, pi_range1 hg F.bl.range (da_cons h da_nil na).pa na, fun σ H Hd R a0 k => ⟨Hd, a0, fun vs H1 Hd1 g1 d1 => by
    obtain ⟨v, rfl, q⟩ := d1.one
    cases q
    refine ⟨n, rfl, hz.1, hz.2, k _ H1 Hd1 g1 fun i H2 Hd2 s1 s2 => ⟨fun d e => ?_, fun hl => by show n.toNat ≤ i; simpa [rangeD] using hl⟩⟩
    unfold rangeD at e
    rw [List.getElem?_map] at e
    cases q : (List.range (n - 0).toNat)[i]? with
    | none => rw [q] at e; cases e
    | some c =>
      rw [q] at e
      cases e
      obtain ⟨q1, q2⟩ := List.getElem?_eq_some_iff.mp q
      have q1 : i < (n - 0).toNat := by simpa using q1
      have q2 : i = c := by simpa using q2
      subst q2
      refine ⟨by show i < n.toNat; omega, fun u H' y => ?_⟩
      obtain ⟨eH, e2⟩ := y
      subst eH e2
      exact ⟨Hd2, .refl s2, .int _⟩⟩⟩
theorem di_range2 {tg a b : Expr} {m n : Int} {p pos : Pos} (h : DE F ρ a (.ok (.int m))) (h' : DE F ρ b (.ok (.int n))) (hz : -(2 ^ 62) ≤ m ∧ m < 2 ^ 62 ∧ -(2 ^ 62) ≤ n ∧ n < 2 ^ 62) (hg : Gl F.X "range" := by rfl)
    (na : starEach [a, b] F.X.env = (false, eval a F.X.env) :: starEach [b] F.X.env := by rfl) (nb : starEach [b] F.X.env = (false, eval b F.X.env) :: starEach [] F.X.env := by rfl)
    (hs : starEach [a, b] F.X.env = [(false, eval a F.X.env), (false, eval b F.X.env)] := by rfl) : DI F ρ tg (.Call (.Name "range" p) [a, b] [] pos) (rangeD m n) :=
  ⟨_, pi_range2 hg F.bl.range (da_cons h (da_cons h' da_nil nb) na).pa hs (hs2 := nb), fun σ H Hd R a0 k => ⟨Hd, a0, fun vs H1 Hd1 g1 d1 => by
    obtain ⟨v, u, rfl, q, q'⟩ := d1.two
    cases q; cases q'
    refine ⟨m, n, rfl, hz, k _ H1 Hd1 g1 fun i H2 Hd2 s1 s2 => ⟨fun d e => ?_, fun hl => by show (n - m).toNat ≤ i; simpa [rangeD] using hl⟩⟩
    unfold rangeD at e
    rw [List.getElem?_map] at e
    cases q : (List.range (n - m).toNat)[i]? with
    | none => rw [q] at e; cases e
    | some c =>
      rw [q] at e
      cases e
      obtain ⟨q1, q2⟩ := List.getElem?_eq_some_iff.mp q
      have q1 : i < (n - m).toNat := by simpa using q1
      have q2 : i = c := by simpa using q2
      subst q2
      refine ⟨q1, fun u H' y => ?_⟩
      obtain ⟨eH, e2⟩ := y
      subst eH e2
      exact ⟨Hd2, .refl s2, .int _⟩⟩⟩

/-! ### targets -/
/-- g stores data: from the slots ρ to b d ρ; vs: its slots -/
def TgOk (K : PySem.W.Frag) (g : TG) (b : PyData → List Sl → Option (List Sl)) (vs : List Nat) : Prop := ∀ d ρ ρ', b d ρ = some ρ' → ∀ v σ H Hd (Q : L2.St → Hp → Prop), Same Hd H → EnvD K Hd σ ρ → Dt K Hd v d → (∀ σ', EnvD K Hd σ' ρ' → wipe σ' vs = wipe σ vs → Q σ' H) → g v σ H Q
def bName (j : Nat) : PyData → List Sl → Option (List Sl) := fun d ρ => some (ρ.set j (.da d))
theorem tg_name {K : PySem.W.Frag} {j : Nat} : TgOk K (gName j) (bName j) [j] := fun d ρ ρ' e v σ H Hd Q s q dv k => by
  cases e
  exact k _ (EnvD.set j q ⟨v, rfl, dv⟩) (by show (σ.set j (some v)).set j none = σ.set j none; rw [List.set_set])
end
end Dv
namespace Dv
open PySem L2 PyProof.Rows

section
variable {F : Fr} {ρ ρ' : List Sl} {pos : Pos} {e c : Expr} {rest A B : List Stmt} {o oa ob o1 o2 : Out} {d : PyData} {C : Addr} {x : Bool} {st : Stmt}
/-! ### loops over data -/
/-- the turns one by one; behind the last: .nx -/
inductive Lp (F : Fr) (b : PyData → List Sl → Option (List Sl)) (body : List Stmt) : List PyData → List Sl → Out → Prop
  | nil {ρ : List Sl} : Lp F b body [] ρ (.nx ρ)
  | next {it : PyData} {r : List PyData} {ρ ρt ρ1 ρ2 : List Sl} {o : Out} : b it ρ = some ρt → DB F ρt body (.nx ρ1) → Wk ρ1 ρ2 → Lp F b body r ρ2 o → Lp F b body (it :: r) ρ o
  | cont {it : PyData} {r : List PyData} {ρ ρt ρ1 ρ2 : List Sl} {o : Out} : b it ρ = some ρt → DB F ρt body (.ct ρ1) → Wk ρ1 ρ2 → Lp F b body r ρ2 o → Lp F b body (it :: r) ρ o
  | ret {it : PyData} {r : List PyData} {ρ ρt : List Sl} {d : PyData} : b it ρ = some ρt → DB F ρt body (.ret d) → Lp F b body (it :: r) ρ (.ret d)
  | brk {it : PyData} {r : List PyData} {ρ ρt ρ1 : List Sl} : b it ρ = some ρt → DB F ρt body (.bk ρ1) → Lp F b body (it :: r) ρ (.nx ρ1)
  | err {it : PyData} {r : List PyData} {ρ ρt : List Sl} {C : Addr} : b it ρ = some ρt → DB F ρt body (.er C) → Lp F b body (it :: r) ρ (.er C)
theorem walks_for {K : PySem.W.Frag} {J : It} {Hd1 : Hp} {ds : List PyData} {g : TG} {tb : TS} {D : Ends} {σ : L2.St} {H : Hp} (Pv : Nat → L2.St → Hp → Prop) (h0 : Pv 0 σ H)
    (hs : ∀ i σ H, Pv i σ H → ∃ Hd, Same Hd1 Hd ∧ Same Hd H ∧ ∀ d, ds[i]? = some d → ∀ v H' Hd', Grw H Hd H' Hd' → Dt K Hd' v d → g v σ H' fun σ2 H2 => tb { D with nx := Pv (i + 1), ct := Pv (i + 1), bk := D.nx } σ2 H2)
    (hd : ∀ σ H, Pv ds.length σ H → D.nx σ H) (hw : Walks K J Hd1 ds) :
    ∃ W : Nat → Nat → L2.St → Hp → Prop, (∃ m, W 0 m σ H) ∧ ∀ i m σ H, W i m σ H →
      (J.stop i H ∧ D.nx σ H) ∨ (J.go i H ∧ ∃ N : L2.St → Hp → Prop, (∀ σ' H', N σ' H' → ∃ m', m' < m ∧ W (i + 1) m' σ' H') ∧ ∀ x H', J.yld i H x H' → g x σ H' fun σ2 H2 => tb { D with nx := N, ct := N, bk := D.nx } σ2 H2) := by
  refine ⟨fun i m σ H => m = ds.length - i ∧ i ≤ ds.length ∧ Pv i σ H, ⟨ds.length, rfl, Nat.zero_le _, h0⟩, ?_⟩
  rintro i m σ H ⟨rfl, hi, p⟩
  obtain ⟨Hd, s1, s2, turn⟩ := hs i σ H p
  obtain ⟨w1, w2⟩ := hw i H Hd s1 s2
  by_cases hlt : i < ds.length
  · obtain ⟨go, y⟩ := w1 ds[i] (List.getElem?_eq_getElem hlt)
    refine .inr ⟨go, Pv (i + 1), fun σ' H' p' => ⟨ds.length - (i + 1), by omega, rfl, hlt, p'⟩, fun v H' yy => ?_⟩
    obtain ⟨Hd', g1, dv⟩ := y v H' yy
    exact turn _ (List.getElem?_eq_getElem hlt) v H' Hd' g1 dv
  · have e : i = ds.length := by omega
    subst e
    exact .inl ⟨w2 (Nat.le_refl _), hd σ H p⟩
theorem ds_for {tg : Expr} {ds : List PyData} {g : TG} {b : PyData → List Sl → Option (List Sl)} {vs : List Nat} (hi : DI F ρ tg e ds) (hg : PG F.X tg g) (ht : TgOk F.X.K g b vs) (hl : Lp F b A ds ρ o) (hc : F.X.calm = true := by rfl)
    (hs : ∀ x, foldedSetIterable e F.X.env x = pure x := by intro _; rfl) : DS F ρ (.For tg e A [] pos) o := by
  obtain ⟨wi, pi, so⟩ := hi.ex
  refine ⟨ps_imp (ps_for F.po hc pi hg pss_u hs) fun D σ H ⟨Hd, a, k⟩ => so σ H Hd _ a fun J H1 Hd1 g1 hw => ?_⟩
  refine walks_for (fun i σ2 H2 => ∃ ρi Hd2, At F.X.K F.o ρi σ2 H2 Hd2 ∧ Same Hd1 Hd2 ∧ Lp F b A (ds.drop i) ρi o ∧ kO F.X.K F.o D H2 Hd2 o) ⟨ρ, Hd1, a.go g1, Same.refl _, hl, k.go g1⟩ ?_ ?_ hw
  · rintro i σ2 H2 ⟨ρi, Hd2, a2, s2, l2, k2⟩
    refine ⟨Hd2, s2, a2.s, fun d hd v H3 Hd3 g3 dv => ?_⟩
    obtain ⟨hi, e⟩ := List.getElem?_eq_some_iff.mp hd
    have ed : ds.drop i = d :: ds.drop (i + 1) := by rw [List.drop_eq_getElem_cons hi, e]
    rw [ed] at l2
    have a3 := a2.go g3
    have k3 := kO.go k2 g3
    cases l2 with
    | next eb hb hw hr =>
      refine ht d ρi _ eb v σ2 H3 Hd3 _ g3.dh a3.e dv fun σ' e' _ => ⟨_, hb.pb, Hd3, a3.env e', fun σ'' H4 Hd4 g4 e4 => ?_⟩
      exact ⟨_, Hd4, ⟨g4.dh, EnvD.wk e4 hw, F.o.st a3.p g4⟩, (s2.trans g3.dd).trans g4.dd, hr, k3.go g4⟩
    | cont eb hb hw hr =>
      refine ht d ρi _ eb v σ2 H3 Hd3 _ g3.dh a3.e dv fun σ' e' _ => ⟨_, hb.pb, Hd3, a3.env e', fun σ'' H4 Hd4 g4 e4 => ?_⟩
      exact ⟨_, Hd4, ⟨g4.dh, EnvD.wk e4 hw, F.o.st a3.p g4⟩, (s2.trans g3.dd).trans g4.dd, hr, k3.go g4⟩
    | ret eb hb => exact ht d ρi _ eb v σ2 H3 Hd3 _ g3.dh a3.e dv fun σ' e' _ => ⟨_, hb.pb, Hd3, a3.env e', k3⟩
    | brk eb hb => exact ht d ρi _ eb v σ2 H3 Hd3 _ g3.dh a3.e dv fun σ' e' _ => ⟨_, hb.pb, Hd3, a3.env e', k3⟩
    | err eb hb => exact ht d ρi _ eb v σ2 H3 Hd3 _ g3.dh a3.e dv fun σ' e' _ => ⟨_, hb.pb, Hd3, a3.env e', k3⟩
  · rintro σ2 H2 ⟨ρi, Hd2, a2, s2, l2, k2⟩
    rw [List.drop_length] at l2
    cases l2
    exact k2 σ2 H2 Hd2 (.refl a2.s) a2.e
/-- a search: where a turn leaves, it hands back r of the item -/
theorem lp_search {b : PyData → List Sl → Option (List Sl)} {ds : List PyData} (p : PyData → Bool) (r : PyData) (ρt : PyData → List Sl) (hb : ∀ it ∈ ds, b it ρ = some (ρt it)) (w : ∀ it ∈ ds, ∃ ρ1, Wk ρ1 ρ ∧ DB F (ρt it) A (if p it = true then .ret r else .nx ρ1)) :
    Lp F b A ds ρ (if ds.any p = true then .ret r else .nx ρ) := by
  induction ds with
  | nil => exact .nil
  | cons it rs ih =>
    have ih' := ih (fun y hy => hb y (List.mem_cons_of_mem _ hy)) fun y hy => w y (List.mem_cons_of_mem _ hy)
    obtain ⟨ρ1, wk, hd⟩ := w it List.mem_cons_self
    rw [List.any_cons]
    cases q : p it with
    | true =>
      rw [q, if_pos rfl] at hd
      rw [Bool.true_or, if_pos rfl]
      exact .ret (hb it List.mem_cons_self) hd
    | false =>
      rw [q, if_neg Bool.false_ne_true] at hd
      rw [Bool.false_or]
      exact .next (hb it List.mem_cons_self) hd wk ih'

/-! ### comprehensions -/
theorem Grw.put {H Hd H' Hd' : Hp} {p : Addr} {u : HO} (g : Grw H Hd H' Hd') (hp : H p = none) (hd : Hd' p = none) : Grw H Hd (L2.upd H' p u) Hd' where
  hh := fun b w e => by rw [upd_ne (ne_of_none e hp)]; exact g.hh b w e
  dd := g.dd
  dh := fun b w e => by rw [upd_ne (ne_of_none e hd)]; exact g.dh b w e
  fr := g.fr
/-- the same, the new object data from now on -/
theorem Grw.own {H Hd H' Hd' : Hp} {p : Addr} {u : HO} (g : Grw H Hd H' Hd') (hp : H p = none) (hu : H' p = some u) (hd : Hd' p = none) : Grw H Hd H' (L2.upd Hd' p u) where
  hh := g.hh
  dd := fun b w e => by
    have := g.dd b w e
    rw [upd_ne (ne_of_none this hd)]; exact this
  dh := fun b w e => by
    by_cases hb : b = p
    · subst hb; rw [upd_same] at e; cases e; exact hu
    · rw [upd_ne hb] at e; exact g.dh b w e
  fr := fun a h1 h2 => by
    have hb : a ≠ p := fun z => h1 (by rw [z]; exact hp)
    rw [upd_ne hb]; exact g.fr a h1 h2
def wipeR (ρ : List Sl) : List Nat → List Sl
  | [] => ρ
  | v :: vs => (wipeR ρ vs).set v .un
theorem EnvD.wipe {K : PySem.W.Frag} {H : Hp} {σ : L2.St} {ρ : List Sl} (h : EnvD K H σ ρ) (vs : List Nat) : EnvD K H (L2.wipe σ vs) (wipeR ρ vs) := by
  induction vs with
  | nil => exact h
  | cons v r ih => exact EnvD.setU v ih
theorem wipe_twice {σ : L2.St} {j : Nat} {vs : List Nat} : (L2.wipe σ vs).set j none = (L2.wipe (σ.set j none) vs) := by
  induction vs with
  | nil => rfl
  | cons v r ih =>
    show ((L2.wipe σ r).set v none).set j none = (L2.wipe (σ.set j none) r).set v none
    rw [← ih]
    by_cases h : v = j
    · subst h; rfl
    · rw [List.set_comm _ _ h]
theorem wipe_idem {σ : L2.St} : ∀ {vs : List Nat}, L2.wipe (L2.wipe σ vs) vs = L2.wipe σ vs
  | [] => rfl
  | v :: r => by
    show (L2.wipe ((L2.wipe σ r).set v none) r).set v none = (L2.wipe σ r).set v none
    rw [← wipe_twice, wipe_idem, List.set_set]
def Ow.blk (o : Ow) : Ow where
  W := fun _ _ _ _ => False
  Ψ := o.Ψ
  st := o.st
/-- nothing is wished of errors: none comes -/
theorem takesN {X : Cx} : L2N.Takes X (fun _ _ _ _ => False) := fun u s' h => by
  obtain ⟨_, _, _, _, _, _, _, _, z⟩ := h
  exact z.2.2.2.2.2.2.2.2.elim
/-- the context of a comprehension's block -/
def Fr.blk (F : Fr) (s : Shared) (H : Hp) (scope : Scope) (cenv : Env) (fp : List Addr) : Fr where
  X := F.X.blk s H scope cenv fp
  o := F.o.blk
  tk := takesN
  hu := F.hu
  bl := F.bl
  po := PassesOwn.never
  nd := F.nd
/-- a block's context, whichever -/
def InBlk (F : Fr) (scope : Scope) (φ : Fr → Prop) : Prop := ∀ (s : Shared) (H : Hp) (C : Addr) (cl : List (Str × Addr)) (fp : List Addr), φ (F.blk s H scope (compEnvC scope cl C F.X.env) fp)
structure DTs (F : Fr) (ρ : List Sl) (ifs : List Expr) (x : Bool) : Prop where
  pts : PTs F.X ifs (tT F.X.K F.o ρ x)
theorem dts_nil : DTs F ρ [] true := ⟨⟨fun pins s σ H Q I ⟨Hd, a, k⟩ => pts_nil.run pins s σ H Q I (k H Hd (.refl a.s))⟩⟩
theorem dts_one (h : DT F ρ c x) : DTs F ρ [c] x := ⟨pts_one h.pt⟩
/-- any reading of tests -/
def uTs (X : Cx) (e : List Expr) : TT := fun σ H Q => ∃ t, PTs X e t ∧ t σ H Q
/-- the source's items, those kept, what they give -/
inductive Cp (φ : PyData → Bool → Option PyData → Prop) : List PyData → List PyData → Prop
  | nil : Cp φ [] []
  | yes {it z : PyData} {r zs : List PyData} : φ it true (some z) → Cp φ r zs → Cp φ (it :: r) (z :: zs)
  | no {it : PyData} {r zs : List PyData} : φ it false none → Cp φ r zs → Cp φ (it :: r) zs
theorem cp_snoc {φ : PyData → Bool → Option PyData → Prop} : ∀ {ds zs : List PyData}, Cp φ ds zs → ∃ zf : Nat → List PyData, zf 0 = [] ∧ zf ds.length = zs ∧ ∀ i d, ds[i]? = some d → (∃ z, φ d true (some z) ∧ zf (i + 1) = zf i ++ [z]) ∨ (φ d false none ∧ zf (i + 1) = zf i)
  | _, _, .nil => ⟨fun _ => [], rfl, rfl, fun i d e => by simp at e⟩
  | _, _, .yes (z := z) h r => by
    obtain ⟨zf, e0, e1, e2⟩ := cp_snoc r
    refine ⟨fun i => match i with | 0 => [] | i + 1 => z :: zf i, rfl, by show z :: zf _ = _; rw [e1], fun i d e => ?_⟩
    cases i with
    | zero => cases e; exact .inl ⟨z, h, by show z :: zf 0 = [z]; rw [e0]⟩
    | succ i =>
      rcases e2 i d (by simpa using e) with ⟨w, q1, q2⟩ | ⟨q1, q2⟩
      · exact .inl ⟨w, q1, by show z :: zf (i + 1) = z :: zf i ++ [w]; rw [q2]; rfl⟩
      · exact .inr ⟨q1, by show z :: zf (i + 1) = z :: zf i; rw [q2]⟩
  | _, _, .no h r => by
    obtain ⟨zf, e0, e1, e2⟩ := cp_snoc r
    refine ⟨fun i => match i with | 0 => [] | i + 1 => zf i, rfl, by show zf _ = _; rw [e1], fun i d e => ?_⟩
    cases i with
    | zero => cases e; exact .inr ⟨h, e0⟩
    | succ i =>
      rcases e2 i d (by simpa using e) with ⟨w, q1, q2⟩ | ⟨q1, q2⟩
      · exact .inl ⟨w, q1, q2⟩
      · exact .inr ⟨q1, q2⟩
theorem cp_len {φ : PyData → Bool → Option PyData → Prop} {ds zs : List PyData} (h : Cp φ ds zs) : zs.length ≤ ds.length := by
  induction h with
  | nil => exact Nat.le_refl _
  | yes _ _ ih => exact Nat.succ_le_succ ih
  | no _ _ ih => exact Nat.le_succ_of_le ih
theorem walks_lc {J : It} {Hd1 : Hp} {ds : List PyData} {g : TG} {tt : TT} {te : TE} {vs : List Nat} {σ : L2.St} {H1 : Hp} {L : Addr} {Q : VK} (Pv : Nat → Hp → Prop) (h0 : Pv 0 (L2.upd H1 L (.lst [])))
    (hs : ∀ i H, Pv i H → ∃ Hd, Same Hd1 Hd ∧ Same Hd H ∧ ∀ d, ds[i]? = some d → ∀ v H' Hd', Grw H Hd H' Hd' → Dt F.X.K Hd' v d → g v (L2.wipe σ vs) H' fun σ2 H2 => L2.wipe σ2 vs = L2.wipe σ vs ∧ tt σ2 H2 fun b H3 =>
      if b = true then te σ2 H3 fun y H4 => ∃ acc, H4 L = some (.lst acc) ∧ acc.length < sizeLine ∧ Pv (i + 1) (L2.upd H4 L (.lst (acc ++ [y]))) else Pv (i + 1) H3)
    (hd : ∀ H, Pv ds.length H → Q (.ref L) H) (hw : Walks F.X.K J Hd1 ds) :
    ∃ W : Nat → Nat → Hp → Prop, (∃ m, W 0 m (L2.upd H1 L (.lst []))) ∧ ∀ i m H, W i m H →
      (J.stop i H ∧ Q (.ref L) H) ∨ (J.go i H ∧ ∃ Nx : Hp → Prop, (∀ H', Nx H' → ∃ m', m' < m ∧ W (i + 1) m' H') ∧ ∀ x H', J.yld i H x H' → g x (L2.wipe σ vs) H' fun σ2 H2 => L2.wipe σ2 vs = L2.wipe σ vs ∧ tt σ2 H2 fun b H3 =>
        if b = true then te σ2 H3 fun y H4 => ∃ acc, H4 L = some (.lst acc) ∧ acc.length < sizeLine ∧ Nx (L2.upd H4 L (.lst (acc ++ [y]))) else Nx H3) := by
  refine ⟨fun i m H => m = ds.length - i ∧ i ≤ ds.length ∧ Pv i H, ⟨ds.length, rfl, Nat.zero_le _, h0⟩, ?_⟩
  rintro i m H ⟨rfl, hi, p⟩
  obtain ⟨Hd, s1, s2, turn⟩ := hs i H p
  obtain ⟨w1, w2⟩ := hw i H Hd s1 s2
  by_cases hlt : i < ds.length
  · obtain ⟨go, y⟩ := w1 ds[i] (List.getElem?_eq_getElem hlt)
    refine .inr ⟨go, Pv (i + 1), fun H' p' => ⟨ds.length - (i + 1), by omega, rfl, hlt, p'⟩, fun v H' yy => ?_⟩
    obtain ⟨Hd', g1, dv⟩ := y v H' yy
    exact turn _ (List.getElem?_eq_getElem hlt) v H' Hd' g1 dv
  · have e : i = ds.length := by omega
    subst e
    exact .inl ⟨w2 (Nat.le_refl _), hd H p⟩
/-- what a comprehension's item gives: b stores it, the tests say x, the element is z -/
def CpT (F : Fr) (ρ : List Sl) (scope : Scope) (b : PyData → List Sl → Option (List Sl)) (ifs : List Expr) (elt : Expr) : PyData → Bool → Option PyData → Prop := fun it x z => ∃ ρt, b it ρ = some ρt ∧ InBlk F scope (fun F' => DTs F' ρt ifs x) ∧
  ∀ w, z = some w → InBlk F scope fun F' => DE F' ρt elt (.ok w)
/-- any reading of a block's tests, of its element -/
def uTB (X : Cx) (scope : Scope) (ifs : List Expr) : TT := fun σ H Q => ∃ t, (∀ (s : Shared) (H : Hp) (C : Addr) (cl : List (Str × Addr)) (fp : List Addr), PTs (X.blk s H scope (compEnvC scope cl C X.env) fp) ifs t) ∧ t σ H Q
def uEB (X : Cx) (scope : Scope) (elt : Expr) : TE := fun σ H Q => ∃ t, (∀ (s : Shared) (H : Hp) (C : Addr) (cl : List (Str × Addr)) (fp : List Addr), PE (X.blk s H scope (compEnvC scope cl C X.env) fp) elt t) ∧ t σ H Q
theorem lc_run {scope : Scope} {own : List (Str × Nat)} {elt : Expr} {ifs : List Expr} {ds zs : List PyData} {g : TG} {b : PyData → List Sl → Option (List Sl)} {wi : TI} (so : SrcOk F.X.K F.o ρ wi ds) (ht : TgOk F.X.K g b (own.map (·.2)))
    (cp : Cp (CpT F (wipeR ρ (own.map (·.2))) scope b ifs elt) ds zs) (hz : ds.length < sizeLine) {σ : L2.St} {H Hd : Hp} {Q : VK} (a : At F.X.K F.o ρ σ H Hd) (k : ∀ v H' Hd', Grw H Hd H' Hd' → Dt F.X.K Hd' v (.list zs) → Q v H') :
    tLc wi g (uTB F.X scope ifs) (uEB F.X scope elt) (own.map (·.2)) σ H Q := by
  refine so σ H Hd _ a fun J H1 Hd1 g1 hw L hL => ?_
  obtain ⟨zf, e0, e1, e2⟩ := cp_snoc cp
  have zl : ∀ i, i ≤ ds.length → (zf i).length ≤ i := fun i => by
    induction i with
    | zero => intro _; rw [e0]; exact Nat.le_refl _
    | succ i ih =>
      intro hi
      have h1 := ih (by omega)
      rcases e2 i ds[i] (List.getElem?_eq_getElem (by omega)) with ⟨z, _, q⟩ | ⟨_, q⟩
      · rw [q, List.length_append, List.length_singleton]; omega
      · rw [q]; omega
  have hLd : Hd1 L = none := (show Same Hd1 H1 from g1.dh).free hL
  refine walks_lc (g := g) (tt := uTB F.X scope ifs) (te := uEB F.X scope elt) (vs := own.map (·.2)) (σ := σ) (H1 := H1) (L := L) (Q := Q) (fun i H2 => ∃ Hd2 acc, Grw H1 Hd1 H2 Hd2 ∧ H2 L = some (.lst acc) ∧ Hd2 L = none ∧ DtA F.X.K Hd2 acc (zf i) ∧ i ≤ ds.length) ?_ ?_ ?_ hw
  · exact ⟨Hd1, [], Grw.put (.refl g1.dh) hL hLd, upd_same, hLd, by rw [e0]; exact .nil, Nat.zero_le _⟩
  · rintro i H2 ⟨Hd2, acc, g2, eL, nL, da, hi⟩
    refine ⟨Hd2, g2.dd, g2.dh, fun d hd v H3 Hd3 g3 dv => ?_⟩
    have hlt : i < ds.length := (List.getElem?_eq_some_iff.mp hd).1
    have a3 := (a.go g1).go (g2.trans g3)
    have nL3 : Hd3 L = none := g3.fr L (by rw [eL]; exact fun z => nomatch z) nL
    have eL3 := g3.hh L _ eL
    have hlen : acc.length ≤ i := by rw [da.len]; exact zl i hi
    rcases e2 i d hd with ⟨z, ⟨ρt, eb, t1, t2⟩, q⟩ | ⟨⟨ρt, eb, t1, t2⟩, q⟩
    · refine ht d _ ρt eb v _ H3 Hd3 _ g3.dh (EnvD.wipe a3.e _) dv fun σ' e' hw' => ⟨by rw [hw', wipe_idem], ?_⟩
      refine ⟨tT F.X.K F.o.blk ρt true, fun s H C cl fp => (t1 s H C cl fp).pts, Hd3, ⟨g3.dh, e', a3.p⟩, fun H4 Hd4 g4 => ?_⟩
      refine iteT ?_
      refine ⟨tE F.X.K F.o.blk ρt (.ok z), fun s H C cl fp => (t2 z rfl s H C cl fp).pe, Hd4, ⟨g4.dh, EnvD.mono e' g4.dd, F.o.st a3.p g4⟩, fun y H5 Hd5 g5 dy => ?_⟩
      have eL5 := (g4.trans g5).hh L _ eL3
      have nL5 : Hd5 L = none := (g4.trans g5).fr L (by rw [eL3]; exact fun z => nomatch z) nL3
      refine ⟨acc, eL5, by omega, Hd5, acc ++ [y], Grw.put (((g2.trans g3).trans g4).trans g5) hL nL5, upd_same, nL5, ?_, hlt⟩
      rw [q]
      exact (da.mono ((g3.dd.trans g4.dd).trans g5.dd)).snoc dy
    · refine ht d _ ρt eb v _ H3 Hd3 _ g3.dh (EnvD.wipe a3.e _) dv fun σ' e' hw' => ⟨by rw [hw', wipe_idem], ?_⟩
      refine ⟨tT F.X.K F.o.blk ρt false, fun s H C cl fp => (t1 s H C cl fp).pts, Hd3, ⟨g3.dh, e', a3.p⟩, fun H4 Hd4 g4 => ?_⟩
      refine iteF ?_
      refine ⟨Hd4, acc, (g2.trans g3).trans g4, g4.hh L _ eL3, g4.fr L (by rw [eL3]; exact fun z => nomatch z) nL3, ?_, hlt⟩
      rw [q]
      exact da.mono (g3.dd.trans g4.dd)
  · rintro H2 ⟨Hd2, acc, g2, eL, nL, da, _⟩
    refine k _ H2 (L2.upd Hd2 L (.lst acc)) (g1.trans (Grw.own g2 hL eL nL)) ?_
    rw [e1] at da
    exact .lst (.inl (.inl upd_same)) (da.mono (Same.upd nL))
theorem pts_u {X : Cx} {scope : Scope} {ifs : List Expr} {s : Shared} {H : Hp} {C : Addr} {cl : List (Str × Addr)} {fp : List Addr} : PTs (X.blk s H scope (compEnvC scope cl C X.env) fp) ifs (uTB X scope ifs) :=
  ⟨fun pins s σ H Q I ⟨t, h, q⟩ => (h _ _ _ _ _).run pins s σ H Q I q⟩
theorem pe_ub {X : Cx} {scope : Scope} {elt : Expr} {s : Shared} {H : Hp} {C : Addr} {cl : List (Str × Addr)} {fp : List Addr} : PE (X.blk s H scope (compEnvC scope cl C X.env) fp) elt (uEB X scope elt) :=
  ⟨fun pins s σ H Q I ⟨t, h, q⟩ => (h _ _ _ _ _).run pins s σ H Q I q⟩
theorem de_lc {scope : Scope} {own : List (Str × Nat)} {tg iter elt : Expr} {ifs : List Expr} {ds zs : List PyData} {g : TG} {b : PyData → List Sl → Option (List Sl)} (hi : DI F ρ tg iter ds) (ok : BlkOk F.X.N F.X.env.scope scope own)
    (hg : ∀ (s : Shared) (H : Hp) (C : Addr) (cl : List (Str × Addr)) (fp : List Addr), PG (F.X.blk s H scope (compEnvC scope cl C F.X.env) fp) tg g) (ht : TgOk F.X.K g b (own.map (·.2)))
    (cp : Cp (CpT F (wipeR ρ (own.map (·.2))) scope b ifs elt) ds zs) (hz : ds.length < sizeLine) (hc : F.X.calm = true := by rfl) (hs : ∀ x, foldedSetIterable iter F.X.env x = pure x := by intro _; rfl) :
    DE F ρ (.ListComp elt [⟨tg, iter, ifs, 0⟩] scope pos) (.ok (.list zs)) := by
  obtain ⟨wi, pi, so⟩ := hi.ex
  exact ⟨pe_imp (pe_lc hc F.nd pi ok hg (fun _ _ _ _ _ => pts_u) (fun _ _ _ _ _ => pe_ub) hs) fun σ H Q ⟨Hd, a, k⟩ => lc_run so ht cp hz a k⟩
/-- y = [..] -/
theorem ds_setLc {i : Nat} {y : Str} {py spos : Pos} {scope : Scope} {own : List (Str × Nat)} {tg iter elt : Expr} {ifs : List Expr} {ds zs : List PyData} {g : TG} {b : PyData → List Sl → Option (List Sl)} (hi : DI F ρ tg iter ds) (ok : BlkOk F.X.N F.X.env.scope scope own)
    (hg : ∀ (s : Shared) (H : Hp) (C : Addr) (cl : List (Str × Addr)) (fp : List Addr), PG (F.X.blk s H scope (compEnvC scope cl C F.X.env) fp) tg g) (ht : TgOk F.X.K g b (own.map (·.2)))
    (cp : Cp (CpT F (wipeR ρ (own.map (·.2))) scope b ifs elt) ds zs) (hz : ds.length < sizeLine) (hy : F.X.N[i]? = some y) (hyl : F.X.env.scope.names.lookup y = some .local)
    (hsw : swapsWith (.ListComp elt [⟨tg, iter, ifs, 0⟩] scope pos) (some (.Name y py)) spos.line F.X.env = pure true) (hc : F.X.calm = true := by rfl) (hs : ∀ x, foldedSetIterable iter F.X.env x = pure x := by intro _; rfl) :
    DS F ρ (.Assign [.Name y py] (.ListComp elt [⟨tg, iter, ifs, 0⟩] scope pos) spos) (.nx (ρ.set i (.da (.list zs)))) := by
  obtain ⟨wi, pi, so⟩ := hi.ex
  exact ⟨ps_imp (ps_setLc hc F.nd hy hyl hsw pi ok hg (fun _ _ _ _ _ => pts_u) (fun _ _ _ _ _ => pe_ub) hs) fun D σ H ⟨Hd, a, k⟩ => lc_run so ht cp hz a fun v H1 Hd1 g1 dv => k _ H1 Hd1 g1 (EnvD.set i (a.e.mono g1.dd) ⟨v, rfl, dv⟩)⟩
end

/-! ### a def of the text -/
inductive Fits : Out → Res → Prop
  | ret {d : PyData} : Fits (.ret d) (.ok d)
  | nx {ρ : List Sl} : Fits (.nx ρ) (.ok .none)
  | er {C : Addr} : Fits (.er C) (.er C)
/-- the context of a def's body -/
def frOf (P : Program) (w : World) (K : PySem.W.Frag) (mg : Str → Option Value) (base : Heap) (N : List Str) (qual : Str) (scope : Scope) (f : Addr) (cd : Value) (A : Around) (outer : List Env) (s : Shared) (H : Hp) (E : XK)
    (hu : (A.deeper (envOfC qual scope s.heap.objs.size f cd)).units + 128 < cLine) (bl : Bl mg) (nd : N.Nodup) : Fr where
  X := cxOf (L2N.CX P w) P w K mg base N qual scope f cd A outer s H E
  o := { W := fun cls d _ H => E cls d H, Ψ := fun _ _ => True, st := fun _ _ => trivial }
  tk := L2N.takes_of rfl rfl rfl rfl
  hu := hu
  bl := bl
  po := passes_of rfl
  nd := nd
def rho (ds : List PyData) (N : List Str) : List Sl := ds.map Sl.da ++ List.replicate (N.length - ds.length) .un
section
variable {P : Program} {w : World} {K : PySem.W.Frag} {mg : Str → Option Value} {base : Heap}
/-- a def by its body, an error's context None -/
theorem okN {nm qual : Str} {sd : Stmt} {f : Addr} {fd : FuncData} {N ps : List Str} {k : Nat} {sp : Sp} (F : Fun K nm qual sd f fd) (S : FnScope N ps (defScope sd)) (ln : ∀ vs H Q E, sp vs H Q E → vs.length = ps.length)
    (bo : ∀ (cdv : Value) (A : Around) (outer : List Env) (s : Shared) (H : Hp) (vs : List V) (Q : VK) (E : XK), Room k (A.deeper (envOfC qual (defScope sd) s.heap.objs.size f cdv)) → sp vs H Q E →
      ∃ t, PSs (cxOf (L2N.CX P w) P w K mg base N qual (defScope sd) f cdv A outer s H E) (defBody sd) t ∧ t { nx := fun _ H' => Q .non H', rt := Q } (L2.start N vs) H) : FnOk P w K mg base (L2N.CX P w) (k + 1) f fd ps sp := by
  obtain ⟨_, _, _, _, _, _, cdv, _, _, e, lk, hcd⟩ := F.ex
  subst e
  exact fn_of lk hcd S ln fun A outer s H => bo cdv A outer s H
theorem fnD {x qual : Str} {st : Stmt} {f : Addr} {fd : FuncData} {N ps : List Str} {k : Nat} {g : List PyData → Res → Prop} (F : Fun K x qual st f fd) (S : FnScope N ps (defScope st)) (bl : Bl mg) (len : ∀ ds r, g ds r → ds.length = ps.length)
    (body : ∀ (cdv : Value) (A : Around) (outer : List Env) (s : Shared) (H : Hp) (E : XK) (hu : (A.deeper (envOfC qual (defScope st) s.heap.objs.size f cdv)).units + 128 < cLine), Room k (A.deeper (envOfC qual (defScope st) s.heap.objs.size f cdv)) →
      ∀ ds r, g ds r → ∃ o, DB (frOf P w K mg base N qual (defScope st) f cdv A outer s H E hu bl S.nd) (rho ds N) (defBody st) o ∧ Fits o r) : FnOk P w K mg base (L2N.CX P w) (k + 1) f fd ps (spD K g) := by
  refine okN F S (fun vs H Q E ⟨Hd, ds, r, s0, da, q, _⟩ => by rw [da.len]; exact len ds r q) fun cdv A outer s H vs Q E hr ⟨Hd, ds, r, s0, da, q, k⟩ => ?_
  have hu : (A.deeper (envOfC qual (defScope st) s.heap.objs.size f cdv)).units + 128 < cLine := by have := hr.un; omega
  obtain ⟨o, hb, fit⟩ := body cdv A outer s H E hu hr ds r q
  refine ⟨_, hb.pb, Hd, ⟨s0, ?_, trivial⟩, ?_⟩
  · show EnvD K Hd (L2.start N vs) (rho ds N)
    unfold L2.start rho
    rw [da.len]
    exact EnvD.start da _
  · cases fit with
    | ret => exact k
    | nx => exact fun σ' H' Hd' g1 _ => k .non H' Hd' g1 .non
    | er => exact fun σ' H' Hd' g1 => k H' Hd' g1
end
end Dv
namespace Dv
open PySem L2 PyProof.Rows
section
variable {F : Fr} {ρ : List Sl} {pos : Pos} {a b c e : Expr} {es : List Expr} {x y : Bool} {d d1 d2 da db : PyData} {i : Int}
/-! ### choices by what is known of a truth -/
def AndV (F : Fr) (ρ : List Sl) (x : Bool) (e : Expr) (r : Res) : Prop := (x = false ∧ r = .ok (.bool false)) ∨ (x = true ∧ DE F ρ e r) ∨ ∃ y, r = .ok (.bool (x && y)) ∧ (x = true → DE F ρ e (.ok (.bool y)))
theorem andV_F (h : x = false) : AndV F ρ x e (.ok (.bool false)) := .inl ⟨h, rfl⟩
theorem andV_T {r : Res} (h : x = true) (t : DE F ρ e r) : AndV F ρ x e r := .inr (.inl ⟨h, t⟩)
theorem andV_G (t : x = true → DE F ρ e (.ok (.bool y))) : AndV F ρ x e (.ok (.bool (x && y))) := .inr (.inr ⟨y, rfl, t⟩)
theorem de_andX {r : Res} (h : DE F ρ a (.ok (.bool x))) (t : AndV F ρ x (.BoolOp .And (b :: es) pos) r) : DE F ρ (.BoolOp .And (a :: b :: es) pos) r := by
  rcases t with ⟨e, q⟩ | ⟨e, q⟩ | ⟨y, e, q⟩
  · subst e q; exact de_andF h
  · subst e
    refine ⟨pe_imp (pe_and h.pe q.pe) fun σ H Q z => ?_⟩
    cases r with
    | ok d =>
      obtain ⟨Hd, at0, k⟩ := z
      refine tE_ok at0 fun v H1 Hd1 g1 d1 => ?_
      cases d1
      exact ⟨true, rfl, Hd1, at0.go g1, fun v H2 Hd2 g2 d2 => k v H2 Hd2 (g1.trans g2) d2⟩
    | er C =>
      obtain ⟨Hd, at0, k⟩ := z
      refine tE_ok at0 fun v H1 Hd1 g1 d1 => ?_
      cases d1
      exact ⟨true, rfl, Hd1, at0.go g1, fun H2 Hd2 g2 => k H2 Hd2 (g1.trans g2)⟩
  · subst e; exact de_and h q
def OrV (F : Fr) (ρ : List Sl) (x : Bool) (e : Expr) (r : Res) : Prop := (x = true ∧ r = .ok (.bool true)) ∨ (x = false ∧ ∃ y, r = .ok (.bool y) ∧ DE F ρ e (.ok (.bool y))) ∨ ∃ y, r = .ok (.bool (x || y)) ∧ (x = false → DE F ρ e (.ok (.bool y)))
theorem orV_T (h : x = true) : OrV F ρ x e (.ok (.bool true)) := .inl ⟨h, rfl⟩
theorem orV_F (h : x = false) (t : DE F ρ e (.ok (.bool y))) : OrV F ρ x e (.ok (.bool y)) := .inr (.inl ⟨h, y, rfl, t⟩)
theorem orV_G (t : x = false → DE F ρ e (.ok (.bool y))) : OrV F ρ x e (.ok (.bool (x || y))) := .inr (.inr ⟨y, rfl, t⟩)
theorem de_orX {r : Res} (h : DE F ρ a (.ok (.bool x))) (t : OrV F ρ x (.BoolOp .Or (b :: es) pos) r) : DE F ρ (.BoolOp .Or (a :: b :: es) pos) r := by
  rcases t with ⟨e, q⟩ | ⟨e, y, q, z⟩ | ⟨y, e, q⟩
  · subst e q; exact de_orT h
  · subst e q; exact de_orF h z
  · subst e; exact de_or h q
def AndW (F : Fr) (ρ : List Sl) (x : Bool) (e : Expr) (z : Bool) : Prop := (x = false ∧ z = false) ∨ (x = true ∧ DW F ρ e z) ∨ ∃ y, z = (x && y) ∧ (x = true → DW F ρ e y)
theorem andW_F (h : x = false) : AndW F ρ x e false := .inl ⟨h, rfl⟩
theorem andW_T {z : Bool} (h : x = true) (t : DW F ρ e z) : AndW F ρ x e z := .inr (.inl ⟨h, t⟩)
theorem andW_G (t : x = true → DW F ρ e y) : AndW F ρ x e (x && y) := .inr (.inr ⟨y, rfl, t⟩)
theorem dw_andX {z : Bool} (h : DT F ρ a x) (t : AndW F ρ x (.BoolOp .And (b :: es) pos) z) : DW F ρ (.BoolOp .And (a :: b :: es) pos) z := by
  rcases t with ⟨e, q⟩ | ⟨e, q⟩ | ⟨y, e, q⟩
  · subst e q; exact dw_andF h
  · subst e; exact dw_andT h q
  · subst e; exact dw_and h q
def OrW (F : Fr) (ρ : List Sl) (x : Bool) (e : Expr) (z : Bool) : Prop := (x = true ∧ z = true) ∨ (x = false ∧ DW F ρ e z) ∨ ∃ y, z = (x || y) ∧ (x = false → DW F ρ e y)
theorem orW_T (h : x = true) : OrW F ρ x e true := .inl ⟨h, rfl⟩
theorem orW_F {z : Bool} (h : x = false) (t : DW F ρ e z) : OrW F ρ x e z := .inr (.inl ⟨h, t⟩)
theorem orW_G (t : x = false → DW F ρ e y) : OrW F ρ x e (x || y) := .inr (.inr ⟨y, rfl, t⟩)
theorem dw_orX {z : Bool} (h : DT F ρ a x) (t : OrW F ρ x (.BoolOp .Or (b :: es) pos) z) : DW F ρ (.BoolOp .Or (a :: b :: es) pos) z := by
  rcases t with ⟨e, q⟩ | ⟨e, q⟩ | ⟨y, e, q⟩
  · subst e q; exact dw_orT h
  · subst e; exact dw_orF h q
  · subst e; exact dw_or h q
def IfV (F : Fr) (ρ : List Sl) (x : Bool) (a b : Expr) (r : Res) : Prop := (x = true ∧ DE F ρ a r) ∨ (x = false ∧ DE F ρ b r) ∨ ∃ d1 d2, r = .ok (if x = true then d1 else d2) ∧ (x = true → DE F ρ a (.ok d1)) ∧ (x = false → DE F ρ b (.ok d2))
theorem ifV_T {r : Res} (h : x = true) (t : DE F ρ a r) : IfV F ρ x a b r := .inl ⟨h, t⟩
theorem ifV_F {r : Res} (h : x = false) (t : DE F ρ b r) : IfV F ρ x a b r := .inr (.inl ⟨h, t⟩)
theorem ifV_G (t : x = true → DE F ρ a (.ok d1)) (u : x = false → DE F ρ b (.ok d2)) : IfV F ρ x a b (.ok (if x = true then d1 else d2)) := .inr (.inr ⟨d1, d2, rfl, t, u⟩)
theorem de_ifX {r : Res} (h : DT F ρ c x) (t : IfV F ρ x a b r) : DE F ρ (.IfExp c a b pos) r := by
  rcases t with ⟨e, q⟩ | ⟨e, q⟩ | ⟨d1, d2, e, q1, q2⟩
  · subst e; exact de_ifT h q
  · subst e; exact de_ifF h q
  · subst e; exact de_if h q1 q2
variable {rest A B : List Stmt} {o oa ob : Out}
/-- an if, then the rest -/
def IfB (F : Fr) (ρ : List Sl) (x : Bool) (A B rest : List Stmt) (o : Out) : Prop := (x = true ∧ ∃ oa, DB F ρ A oa ∧ Aft F ρ oa rest o) ∨ (x = false ∧ ∃ oa, DB F ρ B oa ∧ Aft F ρ oa rest o) ∨
  ∃ oa ob o1 o2, o = (if x = true then o1 else o2) ∧ (x = true → DB F ρ A oa ∧ Aft F ρ oa rest o1) ∧ (x = false → DB F ρ B ob ∧ Aft F ρ ob rest o2)
theorem ifB_T (h : x = true) (t : DB F ρ A oa) (u : Aft F ρ oa rest o) : IfB F ρ x A B rest o := .inl ⟨h, oa, t, u⟩
theorem ifB_F (h : x = false) (t : DB F ρ B oa) (u : Aft F ρ oa rest o) : IfB F ρ x A B rest o := .inr (.inl ⟨h, oa, t, u⟩)
theorem ifB_G {o1 o2 : Out} (t : x = true → DB F ρ A oa ∧ Aft F ρ oa rest o1) (u : x = false → DB F ρ B ob ∧ Aft F ρ ob rest o2) : IfB F ρ x A B rest (if x = true then o1 else o2) := .inr (.inr ⟨oa, ob, o1, o2, rfl, t, u⟩)
theorem db_ifX (h : DT F ρ c x) (t : IfB F ρ x A B rest o) : DB F ρ (.If c A B pos :: rest) o := by
  rcases t with ⟨e, oa, q, u⟩ | ⟨e, oa, q, u⟩ | ⟨oa, ob, o1, o2, e, q1, q2⟩
  · subst e; exact db_seq (ds_ifT h q) u
  · subst e; exact db_seq (ds_ifF h q) u
  · subst e; exact db_seq (ds_if h (fun z => (q1 z).1) (fun z => (q2 z).1)) (aft_if (fun z => (q1 z).2) fun z => (q2 z).2)
/-! ### items -/
def IxOk (da : PyData) (i : Int) (d : PyData) : Prop := match da with
  | .list ds => atI ds i = some d
  | .tuple ds => atI ds i = some d
  | .str z => z.length ≤ sizeLine ∧ ∃ c, atI z.cps.toList i = some c ∧ d = .str ⟨#[c]⟩
  | _ => False
theorem de_ix (ha : DE F ρ a (.ok da)) (hb : DE F ρ b (.ok (.int i))) (h : IxOk da i d) (hs : PlainIx b := by intro _ _; rfl) : DE F ρ (.Subscript a b pos) (.ok d) := by
  cases da with
  | list ds => exact de_ixL ha hb h hs
  | tuple ds => exact de_ixU ha hb h hs
  | str z => obtain ⟨hz, c, h1, rfl⟩ := h; exact de_ixS ha hb h1 hz hs
  | _ => exact h.elim
theorem ixOk_L {ds : List PyData} (h : atI ds i = some d) : IxOk (.list ds) i d := h
theorem ixOk_U {ds : List PyData} (h : atI ds i = some d) : IxOk (.tuple ds) i d := h
theorem ixOk_S {z : Str} {c : Nat} (hz : z.length ≤ sizeLine) (h : atI z.cps.toList i = some c) : IxOk (.str z) i (.str ⟨#[c]⟩) := ⟨hz, c, h, rfl⟩
/-- the item at a place within -/
theorem atI_in {α : Type} {xs : List α} {i : Int} (dflt : α) (h0 : 0 ≤ i) (h1 : i < xs.length) : atI xs i = some (xs.getD i.toNat dflt) := by
  have h2 : i.toNat < xs.length := by omega
  have e : (i.toNat : Int) = i := Int.toNat_of_nonneg h0
  have q := atI_nat (xs := xs) (j := i.toNat) (v := xs.getD i.toNat dflt) (by rw [List.getD_eq_getElem?_getD, List.getElem?_eq_getElem h2]; rfl)
  rw [e] at q
  exact q
abbrev cutX (da : PyData) (l u : Option Int) : PyData := match da with
  | .list ds => .list (cutD ds l u)
  | .tuple ds => .tuple (cutD ds l u)
  | .str z => .str (cutS z l u)
  | d => d
def CutOk (da : PyData) : Prop := match da with
  | .list ds => True
  | .tuple ds => True
  | .str z => z.length ≤ sizeLine
  | _ => False
theorem de_sl {lo hi : Option Expr} {l u : Option Int} {p2 : Pos} (ha : DE F ρ a (.ok da)) (hl : DO F ρ lo l) (hh : DO F ρ hi u) (h : CutOk da) : DE F ρ (.Subscript a (.Slice lo hi none p2) pos) (.ok (cutX da l u)) := by
  cases da with
  | list ds => exact de_slL ha hl hh
  | tuple ds => exact de_slU ha hl hh
  | str z => exact de_slS ha hl hh h
  | _ => exact h.elim
end
section
variable {x : Bool} {o1 o2 : Out} {r : Res} {d d' : PyData}
theorem fits_ret (h : d = d') : Fits (.ret d) (.ok d') := h ▸ .ret
theorem fits_if (h1 : x = true → Fits o1 r) (h2 : x = false → Fits o2 r) : Fits (if x = true then o1 else o2) r := by
  cases x with
  | true => exact h1 rfl
  | false => exact h2 rfl
end
end Dv
namespace Dv
open PySem L2 PyProof.Rows
section
variable {F : Fr} {ρ : List Sl} {pos : Pos} {e : Expr} {d : PyData} {C : Addr}
theorem ds_asgN {y : Str} {p : Pos} (h : DE F ρ e (.ok d)) (hi : F.X.N[nix F.X.N y]? = some y) (hx : Loc F.X.env.scope y) (hf : F.X.fn y = true ∨ F.X.env.scope.names.lookup y = some .local := by first | exact .inl rfl | exact .inr rfl)
    (hs : swapsWithSole [.Name y p] e pos.line F.X.env = pure false := by rfl) (hw : swappedStores [.Name y p] e F.X.env = pure none := by rfl) (h1 : (assignEach [.Name y p] F.X.env).map (·.2) = [assign (.Name y p) F.X.env] := by rfl) : DS F ρ (.Assign [.Name y p] e pos) (.nx (ρ.set (nix F.X.N y) (.da d))) := ds_asg h hi hx hf hs hw h1
/-- an error's class of the text: made with a text, raised -/
structure Ecl (K : PySem.W.Frag) (mg : Str → Option Value) (y : Str) (C : Addr) : Prop where
  q : PySem.W.excIn K C [.type "ValueError", .type "Exception", .type "BaseException", .type "object"] "ValueError.__new__" = true
  g : mg y = some (.ref C)
  k : PySem.W.keepIn K (.ref C) = true
  b : PySem.W.subIn K (.ref C) (.type "BaseException") = some true
  t : PySem.W.typeIn K (.ref C) = some (.type "type")
theorem ds_raiseC {y m : Str} {j : Nat} {p p2 pos2 : Pos} (E : Ecl F.X.K F.X.mg y C) (hc : F.X.calm = true := by rfl) (hg : Gl F.X y := by rfl) (hdb : (y == ("__debug__" : Str)) = false := by decide) : DS F ρ (.Raise (some (.Call (.Name y p) [.Constant (.str m) j p2] [] pos2)) none pos) (.er C) :=
  ds_raise hc PySem.F.excBase_ValueError E.q E.g E.k (raises_own E.b E.t) hg hdb
/-! ### the built-in functions by name -/
def isiI : PyData → Bool | .int _ => true | .bool _ => true | _ => false
def isiB : PyData → Bool | .bool _ => true | _ => false
def isiS : PyData → Bool | .str _ => true | _ => false
def isiU : PyData → Bool | .tuple _ => true | _ => false
def isiL : PyData → Bool | .list _ => true | _ => false
def isiD : PyData → Bool | .dict _ => true | _ => false
theorem kit_isiI (d : PyData) : kitB (tyD d) "int" = some (isiI d) := by
  cases d with
  | none => exact (show kitB "NoneType" "int" = some false by decide +kernel)
  | bool b => exact (show kitB "bool" "int" = some true by decide +kernel)
  | int b => exact (show kitB "int" "int" = some true by decide +kernel)
  | str b => exact (show kitB "str" "int" = some false by decide +kernel)
  | list b => exact (show kitB "list" "int" = some false by decide +kernel)
  | tuple b => exact (show kitB "tuple" "int" = some false by decide +kernel)
  | dict b => exact (show kitB "dict" "int" = some false by decide +kernel)
theorem kit_isiB (d : PyData) : kitB (tyD d) "bool" = some (isiB d) := by
  cases d with
  | none => exact (show kitB "NoneType" "bool" = some false by decide +kernel)
  | bool b => exact (show kitB "bool" "bool" = some true by decide +kernel)
  | int b => exact (show kitB "int" "bool" = some false by decide +kernel)
  | str b => exact (show kitB "str" "bool" = some false by decide +kernel)
  | list b => exact (show kitB "list" "bool" = some false by decide +kernel)
  | tuple b => exact (show kitB "tuple" "bool" = some false by decide +kernel)
  | dict b => exact (show kitB "dict" "bool" = some false by decide +kernel)
theorem kit_isiS (d : PyData) : kitB (tyD d) "str" = some (isiS d) := by
  cases d with
  | none => exact (show kitB "NoneType" "str" = some false by decide +kernel)
  | bool b => exact (show kitB "bool" "str" = some false by decide +kernel)
  | int b => exact (show kitB "int" "str" = some false by decide +kernel)
  | str b => exact (show kitB "str" "str" = some true by decide +kernel)
  | list b => exact (show kitB "list" "str" = some false by decide +kernel)
  | tuple b => exact (show kitB "tuple" "str" = some false by decide +kernel)
  | dict b => exact (show kitB "dict" "str" = some false by decide +kernel)
theorem kit_isiU (d : PyData) : kitB (tyD d) "tuple" = some (isiU d) := by
  cases d with
  | none => exact (show kitB "NoneType" "tuple" = some false by decide +kernel)
  | bool b => exact (show kitB "bool" "tuple" = some false by decide +kernel)
  | int b => exact (show kitB "int" "tuple" = some false by decide +kernel)
  | str b => exact (show kitB "str" "tuple" = some false by decide +kernel)
  | list b => exact (show kitB "list" "tuple" = some false by decide +kernel)
  | tuple b => exact (show kitB "tuple" "tuple" = some true by decide +kernel)
  | dict b => exact (show kitB "dict" "tuple" = some false by decide +kernel)
theorem kit_isiL (d : PyData) : kitB (tyD d) "list" = some (isiL d) := by
  cases d with
  | none => exact (show kitB "NoneType" "list" = some false by decide +kernel)
  | bool b => exact (show kitB "bool" "list" = some false by decide +kernel)
  | int b => exact (show kitB "int" "list" = some false by decide +kernel)
  | str b => exact (show kitB "str" "list" = some false by decide +kernel)
  | list b => exact (show kitB "list" "list" = some true by decide +kernel)
  | tuple b => exact (show kitB "tuple" "list" = some false by decide +kernel)
  | dict b => exact (show kitB "dict" "list" = some false by decide +kernel)
theorem kit_isiD (d : PyData) : kitB (tyD d) "dict" = some (isiD d) := by
  cases d with
  | none => exact (show kitB "NoneType" "dict" = some false by decide +kernel)
  | bool b => exact (show kitB "bool" "dict" = some false by decide +kernel)
  | int b => exact (show kitB "int" "dict" = some false by decide +kernel)
  | str b => exact (show kitB "str" "dict" = some false by decide +kernel)
  | list b => exact (show kitB "list" "dict" = some false by decide +kernel)
  | tuple b => exact (show kitB "tuple" "dict" = some false by decide +kernel)
  | dict b => exact (show kitB "dict" "dict" = some true by decide +kernel)
theorem de_isiI {p p2 : Pos} {a : Expr} (ha : DE F ρ a (.ok d)) (hg : Gl F.X "isinstance" := by rfl) (ht : Gl F.X "int" := by rfl) (h1 : starEach [a, .Name "int" p2] F.X.env = (false, eval a F.X.env) :: starEach [.Name "int" p2] F.X.env := by rfl) : DE F ρ (.Call (.Name "isinstance" p) [a, .Name "int" p2] [] pos) (.ok (.bool (isiI d))) :=
  de_isi (T := "int") ha (kit_isiI d) (by decide +kernel) F.bl.int hg ht h1
theorem de_isiB {p p2 : Pos} {a : Expr} (ha : DE F ρ a (.ok d)) (hg : Gl F.X "isinstance" := by rfl) (ht : Gl F.X "bool" := by rfl) (h1 : starEach [a, .Name "bool" p2] F.X.env = (false, eval a F.X.env) :: starEach [.Name "bool" p2] F.X.env := by rfl) : DE F ρ (.Call (.Name "isinstance" p) [a, .Name "bool" p2] [] pos) (.ok (.bool (isiB d))) :=
  de_isi (T := "bool") ha (kit_isiB d) (by decide +kernel) F.bl.bool hg ht h1
theorem de_isiS {p p2 : Pos} {a : Expr} (ha : DE F ρ a (.ok d)) (hg : Gl F.X "isinstance" := by rfl) (ht : Gl F.X "str" := by rfl) (h1 : starEach [a, .Name "str" p2] F.X.env = (false, eval a F.X.env) :: starEach [.Name "str" p2] F.X.env := by rfl) : DE F ρ (.Call (.Name "isinstance" p) [a, .Name "str" p2] [] pos) (.ok (.bool (isiS d))) :=
  de_isi (T := "str") ha (kit_isiS d) (by decide +kernel) F.bl.str hg ht h1
theorem de_isiU {p p2 : Pos} {a : Expr} (ha : DE F ρ a (.ok d)) (hg : Gl F.X "isinstance" := by rfl) (ht : Gl F.X "tuple" := by rfl) (h1 : starEach [a, .Name "tuple" p2] F.X.env = (false, eval a F.X.env) :: starEach [.Name "tuple" p2] F.X.env := by rfl) : DE F ρ (.Call (.Name "isinstance" p) [a, .Name "tuple" p2] [] pos) (.ok (.bool (isiU d))) :=
  de_isi (T := "tuple") ha (kit_isiU d) (by decide +kernel) F.bl.tuple hg ht h1
theorem de_isiL {p p2 : Pos} {a : Expr} (ha : DE F ρ a (.ok d)) (hg : Gl F.X "isinstance" := by rfl) (ht : Gl F.X "list" := by rfl) (h1 : starEach [a, .Name "list" p2] F.X.env = (false, eval a F.X.env) :: starEach [.Name "list" p2] F.X.env := by rfl) : DE F ρ (.Call (.Name "isinstance" p) [a, .Name "list" p2] [] pos) (.ok (.bool (isiL d))) :=
  de_isi (T := "list") ha (kit_isiL d) (by decide +kernel) F.bl.list hg ht h1
theorem de_isiD {p p2 : Pos} {a : Expr} (ha : DE F ρ a (.ok d)) (hg : Gl F.X "isinstance" := by rfl) (ht : Gl F.X "dict" := by rfl) (h1 : starEach [a, .Name "dict" p2] F.X.env = (false, eval a F.X.env) :: starEach [.Name "dict" p2] F.X.env := by rfl) : DE F ρ (.Call (.Name "isinstance" p) [a, .Name "dict" p2] [] pos) (.ok (.bool (isiD d))) :=
  de_isi (T := "dict") ha (kit_isiD d) (by decide +kernel) F.bl.dict hg ht h1
variable {a b : Expr} {es : List Expr} {ds : List PyData} {dz : PyData} {p : Pos}
theorem de_lenC (ha : DA F ρ (e :: es) ds) (h : CalD F.X (.builtin "len") ds dz) (hg : Gl F.X "len" := by rfl) (he : starEach (e :: es) F.X.env = (false, eval e F.X.env) :: starEach es F.X.env := by rfl) (hpl : (backTo pos (starEach es F.X.env)).any (·.1) = false := by rfl) :
    DE F ρ (.Call (.Name "len" p) (e :: es) [] pos) (.ok dz) := de_callB ha h F.bl.len (by decide +kernel) hg (by decide) (by decide) he hpl
theorem de_absC (ha : DA F ρ (e :: es) ds) (h : CalD F.X (.builtin "abs") ds dz) (hg : Gl F.X "abs" := by rfl) (he : starEach (e :: es) F.X.env = (false, eval e F.X.env) :: starEach es F.X.env := by rfl) (hpl : (backTo pos (starEach es F.X.env)).any (·.1) = false := by rfl) :
    DE F ρ (.Call (.Name "abs" p) (e :: es) [] pos) (.ok dz) := de_callB ha h F.bl.abs (by decide +kernel) hg (by decide) (by decide) he hpl
theorem de_minC (ha : DA F ρ (e :: es) ds) (h : CalD F.X (.builtin "min") ds dz) (hg : Gl F.X "min" := by rfl) (he : starEach (e :: es) F.X.env = (false, eval e F.X.env) :: starEach es F.X.env := by rfl) (hpl : (backTo pos (starEach es F.X.env)).any (·.1) = false := by rfl) :
    DE F ρ (.Call (.Name "min" p) (e :: es) [] pos) (.ok dz) := de_callB ha h F.bl.min (by decide +kernel) hg (by decide) (by decide) he hpl
theorem de_maxC (ha : DA F ρ (e :: es) ds) (h : CalD F.X (.builtin "max") ds dz) (hg : Gl F.X "max" := by rfl) (he : starEach (e :: es) F.X.env = (false, eval e F.X.env) :: starEach es F.X.env := by rfl) (hpl : (backTo pos (starEach es F.X.env)).any (·.1) = false := by rfl) :
    DE F ρ (.Call (.Name "max" p) (e :: es) [] pos) (.ok dz) := de_callB ha h F.bl.max (by decide +kernel) hg (by decide) (by decide) he hpl
theorem de_listC (ha : DA F ρ (e :: es) ds) (h : CalD F.X (.type "list") ds dz) (hg : Gl F.X "list" := by rfl) (he : starEach (e :: es) F.X.env = (false, eval e F.X.env) :: starEach es F.X.env := by rfl) (hpl : (backTo pos (starEach es F.X.env)).any (·.1) = false := by rfl) :
    DE F ρ (.Call (.Name "list" p) (e :: es) [] pos) (.ok dz) := de_callT ha h F.bl.list (by decide +kernel) hg (by decide) (by decide) he hpl
theorem de_tupleC (ha : DA F ρ (e :: es) ds) (h : CalD F.X (.type "tuple") ds dz) (hg : Gl F.X "tuple" := by rfl) (he : starEach (e :: es) F.X.env = (false, eval e F.X.env) :: starEach es F.X.env := by rfl) (hpl : (backTo pos (starEach es F.X.env)).any (·.1) = false := by rfl) :
    DE F ρ (.Call (.Name "tuple" p) (e :: es) [] pos) (.ok dz) := de_callT ha h F.bl.tuple (by decide +kernel) hg (by decide) (by decide) he hpl
theorem de_intC (ha : DA F ρ (e :: es) ds) (h : CalD F.X (.type "int") ds dz) (hg : Gl F.X "int" := by rfl) (he : starEach (e :: es) F.X.env = (false, eval e F.X.env) :: starEach es F.X.env := by rfl) (hpl : (backTo pos (starEach es F.X.env)).any (·.1) = false := by rfl) :
    DE F ρ (.Call (.Name "int" p) (e :: es) [] pos) (.ok dz) := de_callT ha h F.bl.int (by decide +kernel) hg (by decide) (by decide) he hpl
theorem de_strC (ha : DA F ρ (e :: es) ds) (h : CalD F.X (.type "str") ds dz) (hg : Gl F.X "str" := by rfl) (he : starEach (e :: es) F.X.env = (false, eval e F.X.env) :: starEach es F.X.env := by rfl) (hpl : (backTo pos (starEach es F.X.env)).any (·.1) = false := by rfl) :
    DE F ρ (.Call (.Name "str" p) (e :: es) [] pos) (.ok dz) := de_callT ha h F.bl.str (by decide +kernel) hg (by decide) (by decide) he hpl
end
end Dv
namespace Dv
open PySem L2 PyProof.Rows
/-! ### a def that is called within an except suite with the very error that is handled -/
structure FnX (P : Program) (w : World) (K : PySem.W.Frag) (mg : Str → Option Value) (base : Heap) (k : Nat) (f : Addr) (fd : FuncData) (ps : List Str) (sp : Addr × Obj → Sp) : Prop where
  len : ∀ q vs H Q E, sp q vs H Q E → vs.length = ps.length
  run : ∀ (A : Around) (outer : List Env) (s : Shared) (H : Hp) (args : Args) (us : List Value) (vs : List V) (Q : VK) (E : XK) (q : Addr × Obj), L2H.RoomH k A → L2H.Hot1 A q → L2H.PinOk outer H s q →
    Env0 P w K mg base A outer s H → BindsTo s fd args (ps.zip us) → Vals vs us → sp q vs H Q E → codeAny (model P w) A (.call (.ref f) args) (CR CX0 outer P w H s Q E) s
section
variable {P : Program} {w : World} {K : PySem.W.Frag} {mg : Str → Option Value} {base : Heap}
theorem okH {nm qual : Str} {sd : Stmt} {f : Addr} {fd : FuncData} {N ps : List Str} {k : Nat} {sp : Addr × Obj → Sp} (F : Fun K nm qual sd f fd) (S : FnScope N ps (defScope sd)) (ln : ∀ q vs H Q E, sp q vs H Q E → vs.length = ps.length)
    (bo : ∀ (cdv : Value) (A : Around) (outer : List Env) (s : Shared) (H : Hp) (vs : List V) (Q : VK) (E : XK) (q : Addr × Obj), L2H.Hot1 A q → L2H.RoomH k (A.deeper (envOfC qual (defScope sd) s.heap.objs.size f cdv)) → sp q vs H Q E →
      ∃ t, PSs (L2H.cxH CX0 P w K mg base N qual (defScope sd) f cdv A outer s H E q) (defBody sd) t ∧ t { nx := fun _ H' => Q .non H', rt := Q } (L2.start N vs) H) : FnX P w K mg base (k + 1) f fd ps sp := by
  obtain ⟨_, _, _, _, _, _, cdv, _, _, e, lk, hcd⟩ := F.ex
  subst e
  refine ⟨ln, fun A outer s H args us vs Q E q hr hot hpin e0 hb r hsp => ?_⟩
  have hlv := ln _ _ _ _ _ hsp
  have KX : K.In s.heap := PySem.W.Frag.In.keeps e0.mod.kin fun b o z => (e0.bs b o z).1
  have nolim : s.heap.NoLimit := Heap.NoLimit.keeps e0.mod.nolimit fun b o z => (e0.bs b o z).1
  have kinds : ∀ y ∈ ps.zip us, (defScope sd).names.lookup y.1 = some .local ∨ ((defScope sd).names.lookup y.1 = some .cell ∧ ((cellsFrom (s.heap.objs.size + 1) (defScope sd).names []).lookup y.1).isSome = true) := by
    rintro ⟨n, v⟩ hy
    rcases S.par n (List.of_mem_zip hy).1 with z | z
    · exact Or.inl z
    · exact Or.inr ⟨z, PySem.W.cellsFrom_some _ _ _ (Or.inl z)⟩
  refine codeAny_call_function (L2H.RoomH.depth hr) (KX _ _ lk) rfl S.co S.gen rfl (PySem.W.codeRec_of KX hcd) (hb _ _ _ _ ?_)
  refine wpAny_newFunctionEnv_cells S.kind kinds fun ev he s1 x => ?_
  subst he
  refine ⟨nolim.keeps x.toInCall.keep, codeAny_func ?_⟩
  obtain ⟨t, ht, hq⟩ := bo cdv A outer s H vs Q E q hot (L2H.RoomH.deeper hr _) hsp
  have I := L2H.inv_startH (CX := CX0) (E := E) S hpin e0 hlv r x
  refine wpAny_mono (ht.run [] s1 _ H _ I hq) (fun fl s' hs => ?_) fun _ _ hs => hs
  cases fl with
  | ret u =>
    obtain ⟨v, σ', H', J, rv, z⟩ := hs
    exact ⟨v, H', J.os, J.bare, J.base, J.hok, rv, z⟩
  | next =>
    obtain ⟨σ', H', J, z⟩ := hs
    exact ⟨V.non, H', J.os, J.bare, J.base, J.hok, rfl, z⟩
  | brk =>
    obtain ⟨_, _, _, z⟩ := hs
    exact z.elim
  | cont =>
    obtain ⟨_, _, _, z⟩ := hs
    exact z.elim
end
section
variable {X : Cx} {k : Nat} {f : Addr} {fd : FuncData} {ps : List Str} {sp : Addr × Obj → Sp} {x : Str} {pp pos : Pos} {e : Expr} {es : List Expr} {t : TA}
/-- such a call: the error at q is handled, q a pin -/
def tCallX (sp : Addr × Obj → Sp) (q : Addr × Obj) (t : TA) : TE := fun σ H Q => t σ H fun vs H1 => sp q vs H1 Q E0
theorem pe_callX {q : Addr × Obj} (F : FnX X.prog X.w X.K X.mg X.base k f fd ps sp) (hr : L2H.RoomH k X.A) (hot : L2H.Hot1 X.A q) (hq : q ∈ X.pn) (hg : Gl X x) (hm : X.mg x = some (.ref f)) (hk : PySem.W.keepIn X.K (.ref f) = true) (hb : Binds X.K fd ps [])
    (ha : PA X (e :: es) t) (hdb : (x == ("__debug__" : Str)) = false := by decide) (he : starEach (e :: es) X.env = (false, eval e X.env) :: starEach es X.env := by rfl) (hpl : (backTo pos (starEach es X.env)).any (·.1) = false := by rfl) :
    PE X (.Call (.Name x pp) (e :: es) [] pos) (tCallX sp q t) := by
  refine ⟨fun pins s σ H Q I h => wpAny_Call_Name_kw (ld_glob I hg hm ?_ hdb)⟩
  refine PySem.W.callWith_K (h₀ := X.base) I.ok.mod.kin hk (thn (ha.run pos pins s σ H _ I h) fun us s1 ⟨vs, H1, J, r, z⟩ => ⟨J.kIn, ?_⟩) he hpl
  have hl : us.length = ps.length := by rw [← r.length]; exact F.len _ _ _ _ _ z
  have b := hb s1 us J.kIn (by rw [List.append_nil]; exact hl)
  rw [List.append_nil] at b
  have pk := J.pin q (List.mem_append_left _ hq)
  have pin : L2H.PinOk X.stack H1 s1 q := ⟨pk.1, pk.2.1, fun hm => (List.mem_cons.mp (J.stkSub q.1 hm)).elim pk.2.2.1 pk.2.2.2.1, pk.2.2.2.2⟩
  refine wpAny_call (codeAny_mono (F.run X.A X.stack s1 H1 ⟨us, []⟩ us vs Q E0 q hr hot pin J.env0 b r z) fun rr s' hq' => ?_)
  cases rr with
  | error e => exact hq'.elim
  | ok fl =>
    cases fl with
    | ret u => exact J.after hq'
    | next => exact False.elim hq'
    | brk => exact False.elim hq'
    | cont => exact False.elim hq'
/-- isinstance of the very error that is handled -/
theorem call_isX {X : Cx} {q : Addr × Obj} {D : Addr} (C : ExcC X.K D) (hq : q ∈ X.pn) (hz : Zc (.ref D) none q.2) (hf : ∃ vs, q.2.data = .fields vs) : CallR X (.builtin "isinstance") (rIsE X.K D q.1) := by
  rintro pins s σ H xs us Q I r ⟨c, cv, b, rfl, hcv, e, z⟩
  obtain ⟨u1, u2, rfl, r1, r2⟩ := vals2 r
  cases r1
  obtain rfl := hcv _ r2
  obtain ⟨hget, _⟩ := I.pin q (List.mem_append_left _ hq)
  obtain ⟨vs, hv⟩ := hf
  obtain ⟨qa, oc, od, oda, osl⟩ := q
  obtain ⟨h1, h2⟩ := hz
  dsimp only at h1 h2 hv
  subst h1 h2 hv
  have J : PySem.W.InstAt s.heap qa ⟨.ref D, none, .fields vs, osl⟩ D none := ⟨hget, rfl, rfl, trivial⟩
  exact PySem.W.kia_one (PySem.W.handS_kitx_exc C.hg C.hk C.hs C.hd C.ha C.hn C.ht C.hm) I.kIn J e (fun z => nomatch z) fun tk => ⟨.bl b, H, I.kept (t' := tk) fun _ _ z => z, rfl, z⟩
end

/-! ### count of a truth, index, in a list of truths -/
def countB (k : Bool) (bs : List Bool) : Nat := bs.countP (· == k)
theorem readsAll_bls (h : Heap) : ∀ bs : List Bool, ∃ as, ReadsAll h (bs.map Value.bool) (bs.map PyData.bool) as
  | [] => ⟨_, .nil⟩
  | b :: bs => by
    obtain ⟨as, r⟩ := readsAll_bls h bs
    exact ⟨_, .cons (.bool b) r⟩
theorem countIn_bls (k : Bool) : ∀ bs : List Bool, Spec.countIn (.bool k) (bs.map PyData.bool) = ((countB k bs : Nat) : Int)
  | [] => rfl
  | b :: r => by
    have ih := countIn_bls k r
    unfold countB at ih ⊢
    rw [List.map_cons, Spec.countIn, ih, List.countP_cons]
    cases b <;> cases k <;> simp [Spec.same] <;> omega
theorem bls_has (bs : List Bool) : (bs.map PyData.bool).all Spec.Shape.bool.has = true := by
  induction bs with
  | nil => rfl
  | cons b r ih => rw [List.map_cons, List.all_cons, ih]; rfl
def rCntB (K : PySem.W.Frag) : V → List V → Hp → VK → Prop := fun x xs H Q => ∃ (p : Addr) (bs : List Bool) (k : Bool), x = .ref p ∧ xs = [.bl k] ∧ SqL K H p (bs.map V.bl) ∧ Q (.int (countB k bs : Nat)) H
theorem mt_countB {X : Cx} : MtR X "list.count" (rCntB X.K) := by
  rintro pins s σ H x xs v us Q I rx rxs ⟨p, bs, k, rfl, rfl, hs, q⟩
  cases rx
  obtain ⟨u, rfl, ru⟩ := rxs.one
  cases ru
  obtain ⟨its, rv, pl, _⟩ := I.list hs
  have e := rv.bls
  subst e
  obtain ⟨as, ra⟩ := readsAll_bls s.heap bs
  refine count_list_bools pl.isList ra (bls_has bs) ?_
  rw [countIn_bls]
  exact ⟨.int (countB k bs : Nat), H, I.tok _, ⟨_, rfl⟩, q⟩
theorem DtA.ofBls {K : PySem.W.Frag} {H : Hp} {ns : List Bool} {vs : List V} (h : DtA K H vs (ns.map PyData.bool)) : vs = ns.map V.bl := by
  induction ns generalizing vs with
  | nil => cases h; rfl
  | cons n r ih =>
    cases h with
    | cons a b => cases a; rw [ih b]; rfl
theorem all_flat (bs : List Bool) : (bs.map V.bl).all flatV = true := by
  induction bs with
  | nil => rfl
  | cons b r ih => rw [List.map_cons, List.all_cons, ih]; rfl
section
variable {F : Fr} {ρ : List Sl} {pos apos : Pos} {a e : Expr}
/-- a method of a list of data -/
theorem de_mtL {id : String} {name : Str} {es : List Expr} {r : V → List V → Hp → VK → Prop} {ds : List PyData} {args : List PyData} {dz : PyData} (ha : DE F ρ a (.ok (.list ds))) (hb : DA F ρ (e :: es) args) (slot : Slot "list" name id)
    (hty : typeOf (.builtin id) = pure (.type "method_descriptor")) (hm : MtR F.X id r)
    (q : ∀ (p : Addr) (xs vs : List V) (H Hd : Hp) (Q : VK), Same Hd H → SqL F.X.K Hd p xs → DtA F.X.K Hd xs ds → DtA F.X.K Hd vs args → (∀ v H' Hd', Grw H Hd H' Hd' → Dt F.X.K Hd' v dz → Q v H') → r (.ref p) vs H Q)
    (hbase : attributeBase a name F.X.env (eval a F.X.env) = eval a F.X.env := by rfl)
    (hfew : ((backTo pos (starEach (e :: es) F.X.env)).all (fun x => !x.1) && (backToKw pos (keywordEach [] F.X.env)).all (fun x => x.1.isSome) && decide ((e :: es).length + ([] : List Keyword).length + (if ([] : List Keyword).isEmpty then 0 else 1) < 30)) = true := by rfl)
    (hline : (apos.endLine == pos.line) = true := by rfl) (hs : starEach (e :: es) F.X.env = (false, eval e F.X.env) :: starEach es F.X.env := by rfl) (hplain : (backTo pos (starEach es F.X.env)).any (·.1) = false := by rfl) :
    DE F ρ (.Call (.Attribute a name apos) (e :: es) [] pos) (.ok dz) :=
  ⟨pe_imp (pe_bm PySem.F.plainAttrs_list slot hty hm ha.pe hb.pa hbase hfew hline hs hplain) fun σ H Q ⟨Hd, at0, k⟩ => tE_ok at0 fun v H1 Hd1 g1 d1 => by
    cases d1 with
    | lst r1 q1 => exact ⟨.inl ⟨rfl, _, Same.seq g1.dh r1⟩, Hd1, at0.go g1, fun vs H2 Hd2 g2 dv => q _ _ vs H2 Hd2 Q g2.dh (Same.seq g2.dd r1) (q1.mono g2.dd) dv fun z H' Hd' g d => k z H' Hd' ((g1.trans g2).trans g) d⟩⟩
theorem de_countB {bs : List Bool} {k : Bool} (ha : DE F ρ a (.ok (.list (bs.map .bool)))) (hb : DE F ρ e (.ok (.bool k))) (hbase : attributeBase a "count" F.X.env (eval a F.X.env) = eval a F.X.env := by rfl)
    (hfew : ((backTo pos (starEach [e] F.X.env)).all (fun x => !x.1) && (backToKw pos (keywordEach [] F.X.env)).all (fun x => x.1.isSome) && decide (([e] : List Expr).length + ([] : List Keyword).length + (if ([] : List Keyword).isEmpty then 0 else 1) < 30)) = true := by rfl)
    (hline : (apos.endLine == pos.line) = true := by rfl) (hs : starEach [e] F.X.env = (false, eval e F.X.env) :: starEach [] F.X.env := by rfl) (hplain : (backTo pos (starEach [] F.X.env)).any (·.1) = false := by rfl) :
    DE F ρ (.Call (.Attribute a "count" apos) [e] [] pos) (.ok (.int (countB k bs : Nat))) :=
  de_mtL ha (da_cons hb da_nil hs) PySem.F.slot_list_count PySem.F.type_list_count mt_countB (fun p xs vs H Hd Q s r d dv k' => by
    obtain ⟨v, rfl, q⟩ := dv.one
    cases q
    obtain rfl := d.ofBls
    exact ⟨p, bs, k, rfl, rfl, Same.seq s r, k' _ H Hd (.refl s) (.int _)⟩) hbase hfew hline hs hplain
theorem de_indexB {bs : List Bool} {k : Bool} {j : Nat} (ha : DE F ρ a (.ok (.list (bs.map .bool)))) (hb : DE F ρ e (.ok (.bool k))) (hj : bs[j]? = some k) (hn : ∀ m, m < j → bs[m]? ≠ some k) (hbase : attributeBase a "index" F.X.env (eval a F.X.env) = eval a F.X.env := by rfl)
    (hfew : ((backTo pos (starEach [e] F.X.env)).all (fun x => !x.1) && (backToKw pos (keywordEach [] F.X.env)).all (fun x => x.1.isSome) && decide (([e] : List Expr).length + ([] : List Keyword).length + (if ([] : List Keyword).isEmpty then 0 else 1) < 30)) = true := by rfl)
    (hline : (apos.endLine == pos.line) = true := by rfl) (hs : starEach [e] F.X.env = (false, eval e F.X.env) :: starEach [] F.X.env := by rfl) (hplain : (backTo pos (starEach [] F.X.env)).any (·.1) = false := by rfl) :
    DE F ρ (.Call (.Attribute a "index" apos) [e] [] pos) (.ok (.int (j : Nat))) :=
  de_mtL ha (da_cons hb da_nil hs) PySem.F.slot_list_index PySem.F.type_list_index mt_index (fun p xs vs H Hd Q s r d dv k' => by
    obtain ⟨v, rfl, q⟩ := dv.one
    cases q
    obtain rfl := d.ofBls
    refine ⟨p, bs.map V.bl, .bl k, j, .bl k, rfl, rfl, s.seq r, rfl, all_flat bs, by rw [List.getElem?_map, hj]; rfl, by simp [eqV], fun m z hm hz => ?_, k' _ H Hd (.refl s) (.int _)⟩
    rw [List.getElem?_map] at hz
    cases e1 : bs[m]? with
    | none => rw [e1] at hz; cases hz
    | some b =>
      rw [e1] at hz
      cases hz
      have : b ≠ k := fun z => hn m hm (by rw [e1, z])
      simp [eqV, this]) hbase hfew hline hs hplain
end

/-! ### try .. except X as n -/
section
variable {F : Fr} {ρ : List Sl} {pos : Pos}
/-- within the try -/
def Fr.tr (F : Fr) (W : WX) (pn : List (Addr × Obj)) (xe : Value → Shared → Prop) (tk : L2N.Takes (F.X.tr pn xe) W) (po : PassesOwn (model F.X.prog F.X.w) F.X.A F.X.env xe) : Fr where
  X := F.X.tr pn xe
  o := { W := W, Ψ := F.o.Ψ, st := F.o.st }
  tk := tk
  hu := F.hu
  bl := F.bl
  po := po
  nd := F.nd
/-- within the except suite -/
def Fr.suite (F : Fr) (a : Addr) (oe : Obj) (pn : List (Addr × Obj)) : Fr where
  X := F.X.suite a ((a, oe) :: pn)
  o := F.o.blk
  tk := takesN
  hu := F.hu
  bl := F.bl
  po := PassesOwn.never
  nd := F.nd
/-- any reading in a try, in a suite -/
def uTr (F : Fr) (body : List Stmt) (W : WX) : TS := fun D σ H => ∃ t, (∀ (pn : List (Addr × Obj)) (xe : Value → Shared → Prop), L2N.Takes (F.X.tr pn xe) W → PassesOwn (model F.X.prog F.X.w) F.X.A F.X.env xe → PSs (F.X.tr pn xe) body t) ∧ t D σ H
def uSu (F : Fr) (body : List Stmt) (a : Addr) (cls : Value) (d : Option Addr) : TS := fun D σ H => ∃ t, (∀ (oe : Obj) (pn : List (Addr × Obj)), L2N.Zn cls d oe → (∃ vs, oe.data = .fields vs) → PSs (F.X.suite a ((a, oe) :: pn)) body t) ∧ t D σ H
theorem takes_len {X : Cx} {W : WX} (tk : L2N.Takes X W) : L2N.Takes X (fun c d σ H => σ.length = X.N.length → W c d σ H) := fun u s' h => by
  obtain ⟨a, B, sI, pins, σ, H, cls, d, e, I, nb, up, sky, na, os, ag, z⟩ := h
  exact tk u s' ⟨a, B, sI, pins, σ, H, cls, d, e, I, nb, up, sky, na, os, ag, z I.len⟩
theorem EnvD.un {K : PySem.W.Frag} (H : Hp) : ∀ σ : L2.St, EnvD K H σ (List.replicate σ.length .un)
  | [] => .nil
  | _ :: σ => .cons trivial (EnvD.un H σ)
/-- no error leaves it -/
def NoEr : Out → Prop
  | .er _ => False
  | _ => True
theorem kO.noEr {K : PySem.W.Frag} {w w' : Ow} {D : Ends} {H Hd : Hp} {o : Out} (k : kO K w D H Hd o) (n : NoEr o) : kO K w' D H Hd o := by
  cases o with
  | er C => exact n.elim
  | _ => exact k
theorem ds_tryAs {body suite : List Stmt} {b0 : Stmt} {x n : Str} {np pos' : Pos} {i : Nat} {c : Value} {ob os : Out} (hs : F.X.stack = F.X.env :: F.X.outer) (hf : F.X.env.frame = some F.X.env.locals) (hi : F.X.N[i]? = some n) (hln : F.X.env.kindOf n = some .local) (hc : Names F.X x c)
    (hb : ∀ W pn xe tk po, DB (F.tr W pn xe tk po) ρ body ob) (h : (ob = os ∧ NoEr os) ∨ ∃ C d, ob = .er C ∧ os = .ret d ∧ PySem.W.exmOne F.X.K (.ref C) c = some true ∧
      ∀ a oe pn, L2N.Zn (.ref C) none oe → (∃ vs, oe.data = .fields vs) → DB (F.suite a oe pn) ((List.replicate F.X.N.length Sl.un).set i (.rf a)) (b0 :: suite) (.ret d)) :
    DS F ρ (.Try body [.ExceptHandler (some (.Name x np)) (some n) (b0 :: suite) pos'] [] [] pos) os := by
  refine ⟨ps_imp (L2N.ps_try_as (tb := uTr F body) (ts := fun a cls d => uSu F (b0 :: suite) a cls d) (Wout := F.o.W) hs hf F.nd hi hln hc F.tk (fun W pn xe tk po => ⟨fun pins s σ H D I ⟨t, ht, q⟩ => (ht pn xe tk po).run pins s σ H D I q⟩)
    (fun a oe cls d pn hz hd => ⟨fun pins s σ H D I ⟨t, ht, q⟩ => (ht oe pn hz hd).run pins s σ H D I q⟩)) fun D σ H z => ?_⟩
  obtain ⟨Hd, a, k⟩ := z
  refine ⟨tO F.X.K { W := fun c0 d σ H => σ.length = F.X.N.length → wAs F.X.K c i (fun a cls d => uSu F (b0 :: suite) a cls d) F.o.W D c0 d σ H, Ψ := F.o.Ψ, st := F.o.st } ρ ob, fun pn xe tk po => (hb _ pn xe (takes_len (X := F.X.tr pn xe) tk) po).pb, Hd, ⟨a.s, a.e, a.p⟩, ?_⟩
  rcases h with ⟨e, ne⟩ | ⟨C, d, e1, e2, hx, hsu⟩
  · subst e
    exact kO.noEr (K := F.X.K) (w := F.o) k ne
  · subst e1 e2
    refine fun σ' H' Hd' g hl => ⟨true, hx, fun _ a' ha' => ?_, fun z => nomatch z⟩
    refine ⟨tO F.X.K F.o.blk ((List.replicate F.X.N.length Sl.un).set i (.rf a')) (.ret d), fun oe pn hz hd => (hsu a' oe pn hz hd).pb, Hd', ⟨g.dh, ?_, F.o.st a.p g⟩, ?_⟩
    · rw [← hl]
      exact EnvD.set i (EnvD.un Hd' σ') rfl
    · exact fun v H2 Hd2 g2 dv => k v H2 Hd2 (g.trans g2) dv
end
end Dv
namespace Dv
open PySem L2 PyProof.Rows
/-! ### within a def that is called with the handled error -/
def frHot (P : Program) (w : World) (K : PySem.W.Frag) (mg : Str → Option Value) (base : Heap) (N : List Str) (qual : Str) (scope : Scope) (f : Addr) (cd : Value) (A : Around) (outer : List Env) (s : Shared) (H : Hp) (E : XK) (q : Addr × Obj)
    (hu : (A.deeper (envOfC qual scope s.heap.objs.size f cd)).units + 128 < cLine) (bl : Bl mg) (nd : N.Nodup) : Fr where
  X := L2H.cxH CX0 P w K mg base N qual scope f cd A outer s H E q
  o := { W := fun _ _ _ _ => False, Ψ := fun _ _ => True, st := fun _ _ => trivial }
  tk := takesN
  hu := hu
  bl := bl
  po := passes_of rfl
  nd := nd
/-- an error of the class C (alone), whose kind is z -/
def spK (K : PySem.W.Frag) (kd : Addr → PyData → Prop) : Addr × Obj → Sp := fun q vs H Q E => vs = [.ref q.1] ∧ ∃ C z, L2N.Zn (.ref C) none q.2 ∧ (∃ vs, q.2.data = .fields vs) ∧ kd C z ∧ ∃ Hd, Same Hd H ∧ ∀ v H' Hd', Grw H Hd H' Hd' → Dt K Hd' v z → Q v H'
theorem fnK {P : Program} {w : World} {K : PySem.W.Frag} {mg : Str → Option Value} {base : Heap} {nm qual : Str} {sd : Stmt} {f : Addr} {fd : FuncData} {N : List Str} {p : Str} {k : Nat} {kd : Addr → PyData → Prop} (F : Fun K nm qual sd f fd) (S : FnScope N [p] (defScope sd)) (bl : Bl mg)
    (body : ∀ (cdv : Value) (A : Around) (outer : List Env) (s : Shared) (H : Hp) (E : XK) (q : Addr × Obj) (hu : (A.deeper (envOfC qual (defScope sd) s.heap.objs.size f cdv)).units + 128 < cLine) C z, L2N.Zn (.ref C) none q.2 → (∃ vs, q.2.data = .fields vs) → kd C z →
      DB (frHot P w K mg base N qual (defScope sd) f cdv A outer s H E q hu bl S.nd) (.rf q.1 :: List.replicate (N.length - 1) .un) (defBody sd) (.ret z)) : FnX P w K mg base (k + 1) f fd [p] (spK K kd) := by
  refine okH F S (fun q vs H Q E ⟨e, _⟩ => by rw [e]; rfl) fun cdv A outer s H vs Q E q hot hr ⟨e, C, z, hz, hf, hk, Hd, s0, k0⟩ => ?_
  subst e
  have hu : (A.deeper (envOfC qual (defScope sd) s.heap.objs.size f cdv)).units + 128 < cLine := by have := hr.un; omega
  refine ⟨_, (body cdv A outer s H E q hu C z hz hf hk).pb, Hd, ⟨s0, ?_, trivial⟩, k0⟩
  show EnvD K Hd (some (V.ref q.1) :: List.replicate (N.length - 1) none) (.rf q.1 :: List.replicate (N.length - 1) .un)
  refine .cons rfl ?_
  have e := EnvD.un (K := K) Hd (List.replicate (N.length - 1) none)
  rw [List.length_replicate] at e
  exact e
section
variable {F : Fr} {ρ : List Sl} {pos p p1 p2 : Pos} {x n t : Str} {C D : Addr} {q : Addr × Obj} {b : Bool}
/-- isinstance(e, C) of the handled error -/
theorem de_isE (hp : F.X.N[nix F.X.N n]? = some n) (e : ρ[nix F.X.N n]? = some (.rf q.1)) (hv : Vis F.X.env.scope n) (Ex : ExcC F.X.K D) (hq : q ∈ F.X.pn) (hz : Zc (.ref D) none q.2) (hf : ∃ vs, q.2.data = .fields vs) (hm : F.X.mg t = some (.ref C)) (hk : PySem.W.kitOne F.X.K (.ref D) (.ref C) = some b)
    (hg : Gl F.X "isinstance" := by rfl) (ht : Gl F.X t := by rfl) (h1 : starEach [.Name n p1, .Name t p2] F.X.env = (false, eval (.Name n p1) F.X.env) :: starEach [.Name t p2] F.X.env := by rfl) (h3 : (n == ("__debug__" : Str)) = false := by decide) (h4 : (n == ("__classdict__" : Str)) = false := by decide)
    (h5 : (t == ("__debug__" : Str)) = false := by decide) (h2 : (backTo pos (starEach [.Name t p2] F.X.env)).any (·.1) = false := by rfl) : DE F ρ (.Call (.Name "isinstance" p) [.Name n p1, .Name t p2] [] pos) (.ok (.bool b)) :=
  ⟨pe_imp (pe_callB (call_isX Ex hq hz hf) hg F.bl.isi (by decide +kernel) (pa_cons (pe_var hp hv h3 h4) (pa_cons (pe_glob (v := .ref C) ht hm rfl h5) pa_nil) h1) (he := h1) (hpl := h2)) fun σ H Q ⟨Hd, a, k⟩ =>
    ⟨.ref q.1, EnvD.rf a.e e, .ref C, .ref C, b, rfl, fun u r => r, hk, k _ H Hd (.refl a.s) (.bl b)⟩⟩
/-- .. of a built-in class -/
theorem de_isEB {T : String} (hp : F.X.N[nix F.X.N n]? = some n) (e : ρ[nix F.X.N n]? = some (.rf q.1)) (hv : Vis F.X.env.scope n) (Ex : ExcC F.X.K D) (hq : q ∈ F.X.pn) (hz : Zc (.ref D) none q.2) (hf : ∃ vs, q.2.data = .fields vs) (hm : F.X.mg t = none) (hb : bootBuiltins t = some (.type T))
    (hk : PySem.W.kitOne F.X.K (.ref D) (.type T) = some b) (hg : Gl F.X "isinstance" := by rfl) (ht : Gl F.X t := by rfl) (h1 : starEach [.Name n p1, .Name t p2] F.X.env = (false, eval (.Name n p1) F.X.env) :: starEach [.Name t p2] F.X.env := by rfl)
    (h3 : (n == ("__debug__" : Str)) = false := by decide) (h4 : (n == ("__classdict__" : Str)) = false := by decide) (h5 : (t == ("__debug__" : Str)) = false := by decide) (h6 : t ≠ "__name__" := by decide) (h2 : (backTo pos (starEach [.Name t p2] F.X.env)).any (·.1) = false := by rfl) :
    DE F ρ (.Call (.Name "isinstance" p) [.Name n p1, .Name t p2] [] pos) (.ok (.bool b)) :=
  ⟨pe_imp (pe_callB (call_isX Ex hq hz hf) hg F.bl.isi (by decide +kernel) (pa_cons (pe_var hp hv h3 h4) (pa_cons (pe_bltn (v := .ty T) ht hm hb rfl h6 h5) pa_nil) h1) (he := h1) (hpl := h2)) fun σ H Q ⟨Hd, a, k⟩ =>
    ⟨.ref q.1, EnvD.rf a.e e, .ty T, .type T, b, rfl, fun u r => r, hk, k _ H Hd (.refl a.s) (.bl b)⟩⟩
/-- the call f(e) of such a def in the suite -/
theorem de_callK {kd : Addr → PyData → Prop} {k : Nat} {f : Addr} {fd : FuncData} {pm : Str} {z : PyData} (G : FnX F.X.prog F.X.w F.X.K F.X.mg F.X.base k f fd [pm] (spK F.X.K kd)) (hr : L2H.RoomH k F.X.A) (hot : L2H.Hot1 F.X.A q) (hq : q ∈ F.X.pn) (hm : F.X.mg x = some (.ref f)) (hk : PySem.W.keepIn F.X.K (.ref f) = true)
    (hb : Binds F.X.K fd [pm] []) (hp : F.X.N[nix F.X.N n]? = some n) (e : ρ[nix F.X.N n]? = some (.rf q.1)) (hv : Vis F.X.env.scope n) (hz : L2N.Zn (.ref C) none q.2) (hf : ∃ vs, q.2.data = .fields vs) (hd : kd C z) (hg : Gl F.X x := by rfl)
    (h1 : starEach [.Name n p1] F.X.env = (false, eval (.Name n p1) F.X.env) :: starEach [] F.X.env := by rfl) (h3 : (n == ("__debug__" : Str)) = false := by decide) (h4 : (n == ("__classdict__" : Str)) = false := by decide) (h5 : (x == ("__debug__" : Str)) = false := by decide)
    (h2 : (backTo pos (starEach [] F.X.env)).any (·.1) = false := by rfl) : DE F ρ (.Call (.Name x p) [.Name n p1] [] pos) (.ok z) :=
  ⟨pe_imp (pe_callX G hr hot hq hg hm hk hb (pa_cons (pe_var hp hv h3 h4) pa_nil h1) (hdb := h5) (he := h1) (hpl := h2)) fun σ H Q ⟨Hd, a, k⟩ =>
    ⟨.ref q.1, EnvD.rf a.e e, rfl, C, z, hz, hf, hd, Hd, a.s, fun v H' Hd' g d => k v H' Hd' g d⟩⟩
end
end Dv
namespace Dv
open PySem L2 PyProof.Rows
/-! ### a call of one of several defs, chosen by a number -/
inductive NmV (mg : Str → Option Value) : List Str → List V → Prop
  | nil : NmV mg [] []
  | cons {n : Str} {a : Addr} {ns : List Str} {vs : List V} : mg n = some (.ref a) → NmV mg ns vs → NmV mg (n :: ns) (.ref a :: vs)
theorem NmV.len {mg : Str → Option Value} {ns : List Str} {vs : List V} (h : NmV mg ns vs) : vs.length = ns.length := by
  induction h with
  | nil => rfl
  | cons _ _ ih => rw [List.length_cons, List.length_cons, ih]
theorem NmV.get {mg : Str → Option Value} {ns : List Str} {vs : List V} (h : NmV mg ns vs) {j : Nat} {x : Str} (e : ns[j]? = some x) : ∃ a, mg x = some (.ref a) ∧ vs[j]? = some (.ref a) := by
  induction h generalizing j with
  | nil => simp at e
  | @cons n a ns vs q _ ih =>
    cases j with
    | zero => simp at e; subst e; exact ⟨a, q, rfl⟩
    | succ j => simpa using ih (j := j) (by simpa using e)
structure DN (F : Fr) (es : List Expr) (ns : List Str) : Prop where
  ex : ∃ vs, NmV F.X.mg ns vs ∧ ∃ t, PA F.X es t ∧ ∀ σ H Q, Q vs H → t σ H Q
section
variable {F : Fr} {ρ : List Sl} {pos p p1 p2 : Pos} {x : Str} {e a : Expr} {es xs : List Expr} {ns : List Str} {k : Nat} {g : List PyData → Res → Prop}
theorem dn_nil : DN F [] [] := ⟨⟨[], .nil, _, pa_nil, fun _ _ _ h => h⟩⟩
theorem dn_cons (f : Pfn F.X.prog F.X.w F.X.K F.X.mg F.X.base x k g) (h : DN F xs ns) (hg : Gl F.X x := by rfl) (hdb : (x == ("__debug__" : Str)) = false := by decide)
    (hs : starEach (.Name x p :: xs) F.X.env = (false, eval (.Name x p) F.X.env) :: starEach xs F.X.env := by rfl) : DN F (.Name x p :: xs) (x :: ns) := by
  obtain ⟨fa, fd, ps, hm, _⟩ := f.ex
  obtain ⟨vs, q, t, pt, i⟩ := h.ex
  exact ⟨⟨.ref fa :: vs, .cons hm q, _, pa_cons (pe_glob (v := .ref fa) hg hm rfl hdb) pt hs, fun σ H Q h => i σ H _ h⟩⟩
/-- the callee: any expression -/
def tCallE (f : Addr) (sp : Sp) (E : L2.St → XK) (tf : TE) (t : TA) : TE := fun σ H Q => tf σ H fun y H1 => y = .ref f ∧ t σ H1 fun vs H2 => sp vs H2 Q (E σ)
theorem pe_callE {X : Cx} {CX : CXT} {f : Addr} {fd : FuncData} {ps : List Str} {sp : Sp} {E : L2.St → XK} {fe : Expr} {tf : TE} {t : TA} (F : FnOk X.prog X.w X.K X.mg X.base CX k f fd ps sp) (hr : Room k X.A) (hk : PySem.W.keepIn X.K (.ref f) = true) (hb : Binds X.K fd ps []) (hx : ∀ σ, PassesAt CX X σ (E σ))
    (hf : PE X fe tf) (ha : PA X (e :: es) t) (ht : eval (.Call fe (e :: es) [] pos) X.env = (do callWith pos (← eval fe X.env) [] (backTo pos (starEach (e :: es) X.env)) (backToKw pos (keywordEach [] X.env))) := by rfl)
    (he : starEach (e :: es) X.env = (false, eval e X.env) :: starEach es X.env := by rfl) (hpl : (backTo pos (starEach es X.env)).any (·.1) = false := by rfl) : PE X (.Call fe (e :: es) [] pos) (tCallE f sp E tf t) := by
  refine ⟨fun pins s σ H Q I h => ?_⟩
  refine Call_ (thn (hf.run pins s σ H _ I h) fun u s1 ⟨y, H1, I1, ry, ey, q⟩ => ?_) ht
  subst ey
  obtain rfl : u = Value.ref f := ry
  refine PySem.W.callWith_K (h₀ := X.base) I1.ok.mod.kin hk (thn (ha.run pos pins s1 σ H1 _ I1 q) fun us s2 ⟨vs, H2, I2, r, q2⟩ => ⟨I2.kIn, ?_⟩) he hpl
  exact run_fnS F hr hb (hx σ) I2 r q2
theorem de_callSel {i : Int} {j : Nat} {ds : List PyData} {r : Res} (hn : DN F xs ns) (hi : DE F ρ a (.ok (.int i))) (hj : ixN ns.length i = some j) (hx : ns[j]? = some x) (f : Pfn F.X.prog F.X.w F.X.K F.X.mg F.X.base x k g) (hr : Room k F.X.A) (ha : DA F ρ (e :: es) ds) (q : g ds r)
    (hz : ns.length ≤ sizeLine := by decide) (hs : PlainIx a := by intro _ _; rfl)
    (ht : eval (.Call (.Subscript (.List xs p1) a p2) (e :: es) [] pos) F.X.env = (do callWith pos (← eval (.Subscript (.List xs p1) a p2) F.X.env) [] (backTo pos (starEach (e :: es) F.X.env)) (backToKw pos (keywordEach [] F.X.env))) := by rfl)
    (he : starEach (e :: es) F.X.env = (false, eval e F.X.env) :: starEach es F.X.env := by rfl) (hpl : (backTo pos (starEach es F.X.env)).any (·.1) = false := by rfl) :
    DE F ρ (.Call (.Subscript (.List xs p1) a p2) (e :: es) [] pos) r := by
  obtain ⟨fa, fd, ps, hm, hk, hb, hf⟩ := f.ex
  obtain ⟨vs, hv, t, pt, it⟩ := hn.ex
  obtain ⟨fb, hm2, hvj⟩ := hv.get hx
  rw [hm] at hm2
  cases hm2
  have hat : atI vs i = some (.ref fa) := by
    unfold atI
    rw [hv.len, hj]
    exact hvj
  refine ⟨pe_imp (pe_callE hf hr hk hb (fun σ => L2N.passAt F.tk σ) (pe_ix ix_list (pe_lst pt) hi.pe hs) ha.pa ht he hpl) fun σ H Q h => ?_⟩
  have main : ∀ Hd, At F.X.K F.o ρ σ H Hd → (∀ vs H1 Hd1, Grw H Hd H1 Hd1 → DtA F.X.K Hd1 vs ds → spD F.X.K g vs H1 Q (WE F.o.W σ)) → tCallE fa (spD F.X.K g) (WE F.o.W) (tOp (rIxL F.X.K) (tLst t) (tE F.X.K F.o ρ (.ok (.int i)))) (tA F.X.K F.o ρ ds) σ H Q := by
    intro Hd a0 k
    refine it σ H _ ⟨by rw [hv.len]; exact hz, fun p hp => ?_⟩
    have g0 : Grw H Hd (L2.upd H p (.lst vs)) Hd := .junk a0.s hp
    refine tE_ok (a0.go g0) fun v H1 Hd1 g1 d1 => ?_
    cases d1
    refine ⟨p, vs, i, _, rfl, rfl, .inl (.inl (g1.hh _ _ upd_same)), hat, rfl, Hd1, (a0.go g0).go g1, fun us H2 Hd2 g2 du => k us H2 Hd2 ((g0.trans g1).trans g2) du⟩
  cases r with
  | ok d =>
    obtain ⟨Hd, a0, k⟩ := h
    exact main Hd a0 fun vs H1 Hd1 g1 dvs => ⟨Hd1, ds, .ok d, g1.dh, dvs, q, fun v H2 Hd2 g2 dv => k v H2 Hd2 (g1.trans g2) dv⟩
  | er C =>
    obtain ⟨Hd, a0, k⟩ := h
    exact main Hd a0 fun vs H1 Hd1 g1 dvs => ⟨Hd1, ds, .er C, g1.dh, dvs, q, fun H2 Hd2 g2 => k H2 Hd2 (g1.trans g2)⟩
end
/-! ### loops that go through, comprehensions that keep -/
theorem lp_all {F : Fr} {b : PyData → List Sl → Option (List Sl)} {body : List Stmt} {ρ : List Sl} : ∀ {ds : List PyData}, (∀ it ∈ ds, ∃ ρt ρ1, b it ρ = some ρt ∧ (DB F ρt body (.nx ρ1) ∨ DB F ρt body (.ct ρ1)) ∧ Wk ρ1 ρ) → Lp F b body ds ρ (.nx ρ)
  | [], _ => .nil
  | it :: r, h => by
    obtain ⟨ρt, ρ1, e, q, k⟩ := h it (List.mem_cons_self)
    have ih := lp_all (ds := r) fun z hz => h z (List.mem_cons_of_mem _ hz)
    rcases q with q | q
    · exact .next e q k ih
    · exact .cont e q k ih
theorem cp_filter {φ : PyData → Bool → Option PyData → Prop} (p : PyData → Bool) : ∀ {ds : List PyData}, (∀ d ∈ ds, φ d (p d) (if p d = true then some d else none)) → Cp φ ds (ds.filter p)
  | [], _ => .nil
  | d :: r, h => by
    have ih := cp_filter p (ds := r) fun z hz => h z (List.mem_cons_of_mem _ hz)
    have q := h d (List.mem_cons_self)
    cases e : p d with
    | true =>
      rw [e, if_pos rfl] at q
      rw [List.filter_cons_of_pos e]
      exact .yes q ih
    | false =>
      rw [e, if_neg (fun z => nomatch z)] at q
      rw [List.filter_cons_of_neg (by rw [e]; exact fun z => nomatch z)]
      exact .no q ih
theorem rangeD_map (i j : Int) : rangeD i j = ((List.range (j - i).toNat).map fun k : Nat => i + (k : Int)).map PyData.int := by
  unfold rangeD
  rw [List.map_map]
  rfl
theorem rangeD_mem {i j : Int} {d : PyData} (h : d ∈ rangeD i j) : ∃ n : Int, d = .int n ∧ i ≤ n ∧ n < j := by
  unfold rangeD at h
  obtain ⟨k, hk, rfl⟩ := List.mem_map.mp h
  have := List.mem_range.mp hk
  exact ⟨_, rfl, by omega, by omega⟩
theorem bd_inR {X : Cx} {n i j : Int} (hu : X.A.units + 128 < cLine) : BinD X (compareOp .In) (.int n) (.list (rangeD i j)) (.bool (decide (i ≤ n ∧ n < j))) := by
  rw [rangeD_map]
  have e : decide (n ∈ (List.range (j - i).toNat).map fun k : Nat => i + (k : Int)) = decide (i ≤ n ∧ n < j) := by
    refine decide_eq_decide.mpr ⟨fun h => ?_, fun ⟨h1, h2⟩ => ?_⟩
    · obtain ⟨k, hk, rfl⟩ := List.mem_map.mp h
      have := List.mem_range.mp hk
      exact ⟨by omega, by omega⟩
    · exact List.mem_map.mpr ⟨(n - i).toNat, List.mem_range.mpr (by omega), by omega⟩
  rw [← e]
  exact bd_inI hu
theorem fits_nx {ρ : List Sl} : Fits (.nx ρ) (.ok .none) := .nx
theorem fits_er {C : Addr} : Fits (.er C) (.er C) := .er
/-! ### numbers that are checked ahead -/
def isAmong (x : PyData) (lo hi : Int) : Bool := match x with
  | .int n => decide (lo ≤ n) && decide (n ≤ hi)
  | _ => false
/-- of one argument: a number of houses, else refused -/
def gC (C : Addr) (f : Int → PyData) : List PyData → Res → Prop := fun ds r => (∃ n, ds = [.int n] ∧ 1 ≤ n ∧ n ≤ 12 ∧ r = .ok (f n)) ∨ (∃ x, ds = [x] ∧ isAmong x 1 12 = false ∧ r = .er C)
theorem gC_ok {C : Addr} {f : Int → PyData} {n : Int} (h1 : 1 ≤ n) (h2 : n ≤ 12) : gC C f [.int n] (.ok (f n)) := .inl ⟨n, rfl, h1, h2, rfl⟩
theorem gC_er {C : Addr} {f : Int → PyData} {x : PyData} (h : isAmong x 1 12 = false) : gC C f [x] (.er C) := .inr ⟨x, rfl, h, rfl⟩
theorem gC_len {C : Addr} {f : Int → PyData} (ds : List PyData) (r : Res) (h : gC C f ds r) : ds.length = 1 := by
  rcases h with ⟨n, rfl, _⟩ | ⟨x, rfl, _⟩ <;> rfl
theorem among_in {n lo hi : Int} (h1 : lo ≤ n) (h2 : n ≤ hi) : isAmong (.int n) lo hi = true := by
  simp [isAmong, h1, h2]
theorem nd_F {p : Prop} [Decidable p] (h : p) : (!decide p) = false := by rw [decide_eq_true h]; rfl
theorem nd_T {p : Prop} [Decidable p] (h : ¬ p) : (!decide p) = true := by rw [decide_eq_false h]; rfl
end Dv
namespace Dv
open PySem L2 PyProof.Rows
/-! ### the law's own promise, and the end -/
def gLaw : List PyData → Res → Prop := fun ds r => ∃ ns : List Int, ds = [.list (ns.map .int)] ∧ ns.length ≤ 63 ∧ r = .ok (.bool true)
theorem gLaw_len (ds : List PyData) (r : Res) (h : gLaw ds r) : ds.length = 1 := by
  obtain ⟨_, rfl, _⟩ := h
  rfl
theorem noCX {P : Program} {w : World} {H : Hp} {s s' : Shared} {e : Value} (h : L2N.CX P w [] H s (fun _ _ _ => False) e s') : False := by
  obtain ⟨_, _, _, _, _, _, _, _, _, _, _, _, z⟩ := h
  exact z
theorem walkD {l : PySem.W.OpenLaw} {k : Nat} {q : Program} {loose : List Str} {XP : (Str → Option Value) → Heap → Prop} {YP : World → Heap → Prop} {d : DefRec} {K : Params → PySem.W.Frag} {x : Str} (hn : l.most = some 63) (hdf : d.params.defaults = []) (hr : Room k callerA)
    (hY : ∀ (w : World) (h : Heap), YP w h → (K w.params).In h)
    (F : ∀ (w : World) (mg : Str → Option Value) (fa : Addr) (h : Heap), (K w.params).In h → h.Ns mainGlobals mg → mg d.name = some (.ref fa) →
      ∃ fd : FuncData, (∀ (s : Shared) (u : Value), BindsTo s fd ⟨[u], []⟩ [(x, u)]) ∧ ∀ base : Heap, (K w.params).In base → base.Ns mainGlobals mg → FnOk l.prog w (K w.params) mg base (L2N.CX l.prog w) k fa fd [x] (spD (K w.params) gLaw)) :
    PySem.W.WalkO q loose XP YP l.row.toRowW d [] (fun f vs => PySem.call f vs) :=
  L2.walk_of (n := 63) (k := k) (x := x) (CX := fun w => L2N.CX l.prog w) (sp := fun w => spD (K w.params) gLaw) hn (Nat.le_of_ble_eq_true rfl) hdf hr hY F
    (fun w H a ns hl _ hS => ⟨H, [.list (ns.map .int)], .ok (.bool true), Same.refl _, .cons (.lst hS (DtA.ints ns)) .nil, ⟨ns, rfl, hl, rfl⟩, fun v H' Hd' _ dv => by cases dv; rfl⟩) fun _ _ _ _ _ z => noCX z
/-! ### classes as the top has made them -/
theorem kit_own {K : PySem.W.Frag} {t : Value} {C : Addr} {b : Bool} (ne : (t == Value.ref C) = false ∨ b = true) (h1 : PySem.W.isClsIn K C = true) (h2 : PySem.W.typeIn K (.ref C) = some (.type "type")) (h : PySem.W.subIn K t (.ref C) = some b) : PySem.W.kitOne K t (.ref C) = some b := by
  have e2 : ((PySem.W.clsIn K C).isSome && PySem.W.typeIn K (.ref C) == some (.type "type")) = true := by
    have h1' : (PySem.W.clsIn K C).isSome = true := h1
    rw [h1', h2] <;> rfl
  have e3 : PySem.W.kitCls K t (.ref C) = some b := by
    show (if ((PySem.W.clsIn K C).isSome && PySem.W.typeIn K (.ref C) == some (.type "type")) = true then PySem.W.subIn K t (.ref C) else none) = some b
    rw [if_pos e2]; exact h
  unfold PySem.W.kitOne
  split
  · rename_i hq
    rcases ne with ne | ne
    · rw [ne] at hq; cases hq
    · rw [ne]
  · exact e3
theorem exm_own {K : PySem.W.Frag} {t : Value} {C : Addr} {b : Bool} (h0 : PySem.W.subIn K (.ref C) (.type "BaseException") = some true) (h1 : PySem.W.isClsIn K C = true) (h2 : PySem.W.typeIn K (.ref C) = some (.type "type")) (h : PySem.W.subIn K t (.ref C) = some b) : PySem.W.exmOne K t (.ref C) = some b := by
  have e2 : ((PySem.W.clsIn K C).isSome && PySem.W.typeIn K (.ref C) == some (.type "type")) = true := by
    have h1' : (PySem.W.clsIn K C).isSome = true := h1
    rw [h1', h2] <;> rfl
  have e0 : (PySem.W.subIn K (.ref C) (.type "BaseException") == some true) = true := by rw [h0] <;> rfl
  unfold PySem.W.exmOne
  rw [if_pos e0]
  show (if ((PySem.W.clsIn K C).isSome && PySem.W.typeIn K (.ref C) == some (.type "type")) = true then PySem.W.subIn K t (.ref C) else none) = some b
  rw [if_pos e2]; exact h
theorem kit_val {K : PySem.W.Frag} {C : Addr} {b : Bool} (h : PySem.W.subIn K (.ref C) (.type "ValueError") = some b) : PySem.W.kitOne K (.ref C) (.type "ValueError") = some b := h
end Dv
namespace Dv
open PySem L2 PyProof.Rows
section
variable {X : Cx}
/-! ### is of truths -/
theorem bd_isB {a b : Bool} : BinD X (compareOp .Is) (.bool a) (.bool b) (.bool (decide (a = b))) := ⟨_, op_isBl, fun x y H Hd Q s dx dy k => by
  cases dx; cases dy
  exact ⟨a, b, rfl, rfl, k _ H Hd (.refl s) (.bl _)⟩⟩
theorem bd_isnB {a b : Bool} : BinD X (compareOp .IsNot) (.bool a) (.bool b) (.bool (!decide (a = b))) := ⟨_, op_notBl, fun x y H Hd Q s dx dy k => by
  cases dx; cases dy
  exact ⟨a, b, rfl, rfl, k _ H Hd (.refl s) (.bl _)⟩⟩
end
section
variable {F : Fr} {ρ : List Sl} {pos : Pos} {e : Expr}
/-! ### numbers by steps -/
def stepsD (lo c : Int) (n : Nat) : List PyData := (List.range n).map fun i : Nat => .int (lo + (i : Int) * c)
theorem DtA.three {K : PySem.W.Frag} {H : Hp} {xs : List V} {d d1 d2 : PyData} (h : DtA K H xs [d, d1, d2]) : ∃ v u w, xs = [v, u, w] ∧ Dt K H v d ∧ Dt K H u d1 ∧ Dt K H w d2 := by
  cases h with
  | cons q r =>
    obtain ⟨u, w, e, q2, q3⟩ := r.two
    subst e
    exact ⟨_, _, _, rfl, q, q2, q3⟩
theorem di_range3 {tg a b c : Expr} {i j m : Int} {n : Nat} {p : Pos} (ha : DE F ρ a (.ok (.int i))) (hb : DE F ρ b (.ok (.int j))) (hc : DE F ρ c (.ok (.int m))) (hz : RgC i j m n) (hg : Gl F.X "range" := by rfl)
    (n1 : starEach [a, b, c] F.X.env = (false, eval a F.X.env) :: starEach [b, c] F.X.env := by rfl) (n2 : starEach [b, c] F.X.env = (false, eval b F.X.env) :: starEach [c] F.X.env := by rfl) (n3 : starEach [c] F.X.env = (false, eval c F.X.env) :: starEach [] F.X.env := by rfl)
    (hpl : (backTo pos (starEach [b, c] F.X.env)).any (·.1) = false := by rfl) : DI F ρ tg (.Call (.Name "range" p) [a, b, c] [] pos) (stepsD i m n) :=
  ⟨_, pi_range3 hg F.bl.range (da_cons ha (da_cons hb (da_cons hc da_nil n3) n2) n1).pa n1 hpl, fun σ H Hd R a0 k => ⟨Hd, a0, fun vs H1 Hd1 g1 d1 => by
    obtain ⟨v, u, w, rfl, q, q', q''⟩ := d1.three
    cases q; cases q'; cases q''
    refine ⟨i, j, m, n, rfl, hz, k _ H1 Hd1 g1 fun t H2 Hd2 s1 s2 => ⟨fun d e => ?_, fun hl => by show n ≤ t; simpa [stepsD] using hl⟩⟩
    unfold stepsD at e
    rw [List.getElem?_map] at e
    cases q : (List.range n)[t]? with
    | none => rw [q] at e; cases e
    | some c' =>
      rw [q] at e
      cases e
      obtain ⟨q1, q2⟩ := List.getElem?_eq_some_iff.mp q
      have q1 : t < n := by simpa using q1
      have q2 : t = c' := by simpa using q2
      subst q2
      refine ⟨q1, fun u H' y => ?_⟩
      obtain ⟨eH, e2⟩ := y
      subst eH e2
      exact ⟨Hd2, .refl s2, .int _⟩⟩⟩
/-! ### texts joined, parted -/
theorem de_join {o : Expr} {apos : Pos} {z : Str} {ys : List Str} (ho : DE F ρ o (.ok (.str z))) (he : DE F ρ e (.ok (.list (ys.map .str)))) (hz : (ys.map (·.length)).sum + ys.length * z.length ≤ 16777216) (hs : starEach [e] F.X.env = [(false, eval e F.X.env)] := by rfl)
    (hbase : attributeBase o "join" F.X.env (eval o F.X.env) = eval o F.X.env := by rfl) (hline : (apos.endLine == pos.line) = true := by rfl) : DE F ρ (.Call (.Attribute o "join" apos) [e] [] pos) (.ok (.str (Txt.join z ys))) :=
  ⟨pe_imp (pe_join ho.pe he.pe hs hbase hline) fun σ H Q ⟨Hd, a, k⟩ => tE_ok a fun x H1 Hd1 g1 dx => by
    cases dx
    refine ⟨⟨z, rfl⟩, tE_ok (a.go g1) fun y H2 Hd2 g2 dy => ?_⟩
    cases dy with
    | lst r q =>
      have e := q.ofStrs
      subst e
      exact ⟨z, _, ys, rfl, rfl, .inl (Same.seq g2.dh r), hz, k _ H2 Hd2 (g1.trans g2) (.str _)⟩⟩
/-! ### loops that go through, from any slots -/
theorem ds_forAll {tg : Expr} {A : List Stmt} {ds : List PyData} {g : TG} {b : PyData → List Sl → Option (List Sl)} {vs : List Nat} {ρ0 : List Sl} (hi : DI F ρ tg e ds) (hw : Wk ρ ρ0) (hi0 : DI F ρ0 tg e ds) (hg : PG F.X tg g) (ht : TgOk F.X.K g b vs)
    (h : ∀ it ∈ ds, ∃ ρt ρ1, b it ρ0 = some ρt ∧ (DB F ρt A (.nx ρ1) ∨ DB F ρt A (.ct ρ1)) ∧ Wk ρ1 ρ0) (hc : F.X.calm = true := by rfl) (hs : ∀ x, foldedSetIterable e F.X.env x = pure x := by intro _; rfl) : DS F ρ (.For tg e A [] pos) (.nx ρ0) :=
  ⟨ps_imp (ds_for hi0 hg ht (lp_all h) hc hs).ps fun D σ H ⟨Hd, a, k⟩ => ⟨Hd, a.env (EnvD.wk a.e hw), k⟩⟩
end
/-! ### comprehensions over numbers -/
def rangeL (a b : Int) : List Int := (List.range (b - a).toNat).map fun k : Nat => a + (k : Int)
theorem rangeD_L (a b : Int) : rangeD a b = (rangeL a b).map .int := rangeD_map a b
theorem rangeL_mem {a b n : Int} : n ∈ rangeL a b ↔ a ≤ n ∧ n < b := by
  unfold rangeL
  constructor
  · intro h
    obtain ⟨k, hk, rfl⟩ := List.mem_map.mp h
    have := List.mem_range.mp hk
    exact ⟨by omega, by omega⟩
  · intro ⟨h1, h2⟩
    exact List.mem_map.mpr ⟨(n - a).toNat, List.mem_range.mpr (by omega), by omega⟩
theorem rangeL_len (a b : Int) : (rangeL a b).length = (b - a).toNat := by simp [rangeL]
theorem cp_map {φ : PyData → Bool → Option PyData → Prop} {α : Type} {f : α → PyData} {g : α → PyData} : ∀ {L : List α}, (∀ x ∈ L, φ (f x) true (some (g x))) → Cp φ (L.map f) (L.map g)
  | [], _ => .nil
  | x :: r, h => .yes (h x List.mem_cons_self) (cp_map (L := r) fun z hz => h z (List.mem_cons_of_mem _ hz))
theorem cp_rg {φ : PyData → Bool → Option PyData → Prop} {a b : Int} {g : Int → PyData} (h : ∀ n, a ≤ n → n < b → φ (.int n) true (some (g n))) : Cp φ (rangeD a b) ((rangeL a b).map g) := by
  rw [rangeD_L]
  exact cp_map fun x hx => h x (rangeL_mem.mp hx).1 (rangeL_mem.mp hx).2
/-- an item by a rest -/
theorem atI_n {α : Type} {xs : List α} {i : Int} (n : Nat) (dflt : α) (hl : xs.length = n) (h0 : 0 ≤ i) (h1 : i < n) : atI xs i = some (xs.getD i.toNat dflt) := atI_in dflt h0 (by rw [hl]; exact h1)
end Dv
namespace Dv
open PySem L2 PyProof.Rows
/-! ### shapes -/
structure DOk (n : Nat) (d : PyData) : Prop where
  c : d.canLay0 = true
  h : d.depth ≤ n
structure DOkA (n : Nat) (ds : List PyData) : Prop where
  c : PyData.canLayAll0 ds = true
  h : PyData.depthAll ds ≤ n
theorem shp {n : Nat} {d : PyData} (h : DOk n d) (hn : n ≤ 64 := by decide) : SeqAt.shaped d = true := by
  unfold SeqAt.shaped
  rw [h.c]
  exact decide_eq_true (Nat.le_trans h.h hn)
theorem dok_int {n : Nat} {i : Int} : DOk n (.int i) := ⟨rfl, Nat.zero_le _⟩
theorem dok_str {n : Nat} {i : Str} (h : PyData.strOk i = true) : DOk n (.str i) := ⟨h, Nat.zero_le _⟩
theorem dok_bl {n : Nat} {i : Bool} : DOk n (.bool i) := ⟨rfl, Nat.zero_le _⟩
theorem dok_non {n : Nat} : DOk n .none := ⟨rfl, Nat.zero_le _⟩
theorem dok_list {n : Nat} {ds : List PyData} (h : DOkA n ds) : DOk (n + 1) (.list ds) := ⟨by simpa [PyData.canLay0] using h.c, by simpa [PyData.depth] using h.h⟩
theorem dok_tup {n : Nat} {ds : List PyData} (h : DOkA n ds) : DOk (n + 1) (.tuple ds) := ⟨by simpa [PyData.canLay0] using h.c, by simpa [PyData.depth] using h.h⟩
theorem doka_nil {n : Nat} : DOkA n [] := ⟨rfl, Nat.zero_le _⟩
theorem doka_cons {n : Nat} {d : PyData} {ds : List PyData} (h : DOk n d) (r : DOkA n ds) : DOkA n (d :: ds) :=
  ⟨by simp [PyData.canLayAll0, h.c, r.c], by simp only [PyData.depthAll]; exact Nat.max_le.mpr ⟨h.h, r.h⟩⟩
theorem doka_of {n : Nat} : ∀ {ds : List PyData}, (∀ d ∈ ds, DOk n d) → DOkA n ds
  | [], _ => doka_nil
  | _ :: r, h => doka_cons (h _ List.mem_cons_self) (doka_of (ds := r) fun z hz => h z (List.mem_cons_of_mem _ hz))
theorem DOkA.mem {n : Nat} : ∀ {ds : List PyData}, DOkA n ds → ∀ d ∈ ds, DOk n d
  | x :: r, h, d, hd => by
    have c := h.c
    have q := h.h
    simp only [PyData.canLayAll0, Bool.and_eq_true] at c
    simp only [PyData.depthAll] at q
    rcases List.mem_cons.mp hd with e | e
    · subst e; exact ⟨c.1, Nat.le_trans (Nat.le_max_left _ _) q⟩
    · exact DOkA.mem (ds := r) ⟨c.2, Nat.le_trans (Nat.le_max_right _ _) q⟩ d e
theorem doka_app {n : Nat} {a b : List PyData} (h : DOkA n a) (g : DOkA n b) : DOkA n (a ++ b) := doka_of fun d hd => by
  rcases List.mem_append.mp hd with e | e
  · exact h.mem d e
  · exact g.mem d e
theorem DOk.mono {n m : Nat} {d : PyData} (h : DOk n d) (q : n ≤ m) : DOk m d := ⟨h.c, Nat.le_trans h.h q⟩
theorem DOkA.mono {n m : Nat} {d : List PyData} (h : DOkA n d) (q : n ≤ m) : DOkA m d := ⟨h.c, Nat.le_trans h.h q⟩
theorem doka_map {n : Nat} {α : Type} {f : α → PyData} {xs : List α} (h : ∀ x, DOk n (f x)) : DOkA n (xs.map f) := doka_of fun d hd => by
  obtain ⟨x, _, rfl⟩ := List.mem_map.mp hd
  exact h x
theorem doka_filter {n : Nat} {p : PyData → Bool} {xs : List PyData} (h : DOkA n xs) : DOkA n (xs.filter p) := doka_of fun d hd => h.mem d (List.mem_filter.mp hd).1
theorem strOk_one {z : Str} (h : PyData.strOk z = true) {c : Nat} (hc : c ∈ z.cps.toList) : PyData.strOk ⟨#[c]⟩ = true := by
  have h1 : ∀ c ∈ z.cps.toList, c < 0x110000 := by
    intro c hc
    unfold PyData.strOk at h
    have q := Array.all_eq_true'.mp h c (Array.mem_toList_iff.mp hc)
    exact of_decide_eq_true q
  unfold PyData.strOk
  simp [h1 c hc]
theorem doka_signs {n : Nat} {z : Str} (h : PyData.strOk z = true) : DOkA n (signs z) := doka_of fun d hd => by
  obtain ⟨c, hc, rfl⟩ := List.mem_map.mp hd
  exact dok_str (strOk_one h hc)
theorem strOk_app {a b : Str} (h : PyData.strOk a = true) (g : PyData.strOk b = true) : PyData.strOk (a ++ b) = true := by
  unfold PyData.strOk at h g ⊢
  show (a.cps ++ b.cps).all _ = true
  rw [Array.all_append, h, g]
  rfl
theorem eqv_nil (xs : List PyData) : PyData.eqv (.list xs) (.list []) = xs.isEmpty := by
  cases xs <;> simp [PyData.eqv, PyData.eqvAll]
theorem filter_empty {α : Type} (p : α → Bool) : ∀ xs : List α, (xs.filter p).isEmpty = !xs.any p
  | [] => rfl
  | x :: r => by
    rw [List.filter_cons, List.any_cons]
    cases e : p x with
    | true => rfl
    | false => exact filter_empty p r
/-! ### rows, words -/
def lettersS : Str := "abcdefghijklmnopqrstuvwxyz"
def badSign : PyData → Bool := fun d => match d with
  | .str s => !decide (s.cps.toList.headD 0 ∈ lettersS.cps.toList)
  | _ => false
def rowLen (z : Str) : Bool := decide ((1 : Int) ≤ (z.length : Int)) && decide ((z.length : Int) ≤ 8)
def rowB (z : Str) : Bool := rowLen z && !(signs z).any badSign
def leafOk : PyData → Prop := fun d => match d with
  | .str z => z.length ≤ 1000 ∧ PyData.strOk z = true
  | _ => True
def isRow : PyData → Bool := fun d => match d with
  | .str z => rowB z
  | _ => false
def g_row : List PyData → Res → Prop := fun ds r => ∃ x, ds = [x] ∧ leafOk x ∧ r = .ok (.bool (isRow x))
theorem g_row_i {x : PyData} (h : leafOk x) : g_row [x] (.ok (.bool (isRow x))) := ⟨x, rfl, h, rfl⟩
def g_among : List PyData → Res → Prop := fun ds r => ∃ x lo hi, ds = [x, .int lo, .int hi] ∧ r = .ok (.bool (isAmong x lo hi))
theorem g_among_i {x : PyData} {lo hi : Int} : g_among [x, .int lo, .int hi] (.ok (.bool (isAmong x lo hi))) := ⟨x, lo, hi, rfl, rfl⟩
theorem among_int {x : PyData} {lo hi : Int} (h : isAmong x lo hi = true) : ∃ n, x = .int n ∧ lo ≤ n ∧ n ≤ hi := by
  cases x with
  | int n =>
    simp only [isAmong, Bool.and_eq_true, decide_eq_true_eq] at h
    exact ⟨n, rfl, h.1, h.2⟩
  | _ => cases h
theorem row_str {x : PyData} (h : isRow x = true) : ∃ z, x = .str z ∧ rowB z = true := by
  cases x with
  | str z => exact ⟨z, rfl, h⟩
  | _ => cases h
theorem rowB_len {z : Str} (h : rowB z = true) : z.length ≤ 8 := by
  simp only [rowB, rowLen, Bool.and_eq_true, decide_eq_true_eq] at h
  omega
theorem row_mem {z : Str} (h : rowB z = true) : ∀ c ∈ z.cps.toList, c ∈ lettersS.cps.toList := by
  intro c hc
  simp only [rowB, Bool.and_eq_true, Bool.not_eq_true', List.any_eq_false, signs] at h
  have q := h.2 (.str ⟨#[c]⟩) (List.mem_map.mpr ⟨c, hc, rfl⟩)
  simpa [badSign] using q
theorem strOk_row {z : Str} (h : rowB z = true) : PyData.strOk z = true := by
  have hl : ∀ c ∈ lettersS.cps.toList, c < 0x110000 := by decide +kernel
  unfold PyData.strOk
  refine Array.all_eq_true'.mpr fun c hc => decide_eq_true (hl c (row_mem h c (Array.mem_toList_iff.mpr hc)))
theorem leafOk_row {z : Str} (h : rowB z = true) : leafOk (.str z) := ⟨Nat.le_trans (rowB_len h) (by decide), strOk_row h⟩
/-- the parts of a word of a town of n houses -/
def callerB (n : Int) (b d : PyData) : Bool := match b, d with
  | .int m, .int h => decide (h = m % n)
  | _, _ => false
def partsB (n : Int) (a b c d : PyData) : Bool := match a with
  | .str k => isAmong b 0 9999 && isRow c && isAmong d 0 (n - 1) && (decide (k = "mark") || (decide (k = "say") && callerB n b d))
  | _ => false
def isWordL (n : Int) (ds : List PyData) : Bool := match ds with
  | [a, b, c, d] => partsB n a b c d
  | _ => false
def isWord (n : Int) : PyData → Bool := fun x => match x with
  | .tuple ds => isWordL n ds
  | _ => false
theorem isWord4 (n : Int) (a b c d : PyData) : isWord n (.tuple [a, b, c, d]) = partsB n a b c d := rfl
def wOk : PyData → Prop := fun x => match x with
  | .tuple ds => ∀ d ∈ ds, leafOk d
  | _ => True
/-- is_word -/
def g_word (C : Addr) : List PyData → Res → Prop := fun ds r => (∃ n x, ds = [.int n, x] ∧ 1 ≤ n ∧ n ≤ 12 ∧ wOk x ∧ r = .ok (.bool (isWord n x))) ∨ (∃ c x, ds = [c, x] ∧ isAmong c 1 12 = false ∧ r = .er C)
theorem g_word_i {C : Addr} {n : Int} {x : PyData} (h1 : 1 ≤ n) (h2 : n ≤ 12) (h : wOk x) : g_word C [.int n, x] (.ok (.bool (isWord n x))) := .inl ⟨n, x, rfl, h1, h2, h, rfl⟩
theorem g_word_e {C : Addr} {c x : PyData} (h : isAmong c 1 12 = false) : g_word C [c, x] (.er C) := .inr ⟨c, x, rfl, h, rfl⟩
theorem g_word_len {C : Addr} (ds : List PyData) (r : Res) (h : g_word C ds r) : ds.length = 2 := by
  rcases h with ⟨n, x, rfl, _⟩ | ⟨c, x, rfl, _⟩ <;> rfl
/-- the law's own is_word -/
def g_lword : List PyData → Res → Prop := fun ds r => ∃ n x, ds = [.int n, x] ∧ 1 ≤ n ∧ n ≤ 12 ∧ wOk x ∧ r = .ok (.bool (isWord n x))
theorem g_lword_i {n : Int} {x : PyData} (h1 : 1 ≤ n) (h2 : n ≤ 12) (h : wOk x) : g_lword [.int n, x] (.ok (.bool (isWord n x))) := ⟨n, x, rfl, h1, h2, h, rfl⟩
theorem mod_rest {n m h : Int} (h1 : 1 ≤ n) (h2 : n ≤ 12) (h3 : 0 ≤ h) (h4 : h ≤ n - 1) : ((m - h) % n = 0) ↔ h = m % n := by
  have hs : n = 1 ∨ n = 2 ∨ n = 3 ∨ n = 4 ∨ n = 5 ∨ n = 6 ∨ n = 7 ∨ n = 8 ∨ n = 9 ∨ n = 10 ∨ n = 11 ∨ n = 12 := by omega
  rcases hs with rfl | rfl | rfl | rfl | rfl | rfl | rfl | rfl | rfl | rfl | rfl | rfl <;> omega
theorem rem_in {c n : Int} (h1 : 1 ≤ n) (h2 : n ≤ 12) : 0 ≤ c % n ∧ c % n ≤ n - 1 := by
  have := Int.emod_nonneg c (show n ≠ 0 by omega)
  have := Int.emod_lt_of_pos c (show 0 < n by omega)
  omega
/-- a word by its parts -/
abbrev wordD (k : Str) (m : Int) (r : Str) (h : Int) : PyData := .tuple [.str k, .int m, .str r, .int h]
theorem wOk_word {k : Str} {m h : Int} {r : Str} (hk : leafOk (.str k)) (hr : leafOk (.str r)) : wOk (wordD k m r h) := by
  intro d hd
  simp only [List.mem_cons, List.mem_nil_iff, or_false] at hd
  rcases hd with rfl | rfl | rfl | rfl
  · exact hk
  · trivial
  · exact hr
  · trivial
theorem dok_word {k : Str} {m h : Int} {r : Str} {n : Nat} (hk : PyData.strOk k = true) (hr : PyData.strOk r = true) : DOk (n + 1) (wordD k m r h) := dok_tup (doka_cons (dok_str hk) (doka_cons dok_int (doka_cons (dok_str hr) (doka_cons dok_int doka_nil))))
/-- what at an index of a list of numbers, else nought -/
def atL (ns : List Int) (k : Int) : Int := ns.getD k.toNat 0
end Dv
namespace Dv
open PySem L2 PyProof.Rows
/-! ### drawn rows -/
section
variable {F : Fr} {ρ : List Sl} {pos : Pos} {e : Expr}
theorem de_joinM {α : Type} {L : List α} {h : α → Str} {o : Expr} {apos : Pos} {z : Str} (ho : DE F ρ o (.ok (.str z))) (he : DE F ρ e (.ok (.list (L.map fun j => .str (h j))))) (hz : ((L.map h).map (·.length)).sum + (L.map h).length * z.length ≤ 16777216) (hs : starEach [e] F.X.env = [(false, eval e F.X.env)] := by rfl)
    (hbase : attributeBase o "join" F.X.env (eval o F.X.env) = eval o F.X.env := by rfl) (hline : (apos.endLine == pos.line) = true := by rfl) : DE F ρ (.Call (.Attribute o "join" apos) [e] [] pos) (.ok (.str (Txt.join z (L.map h)))) := by
  refine de_join ho ?_ hz hs hbase hline
  rw [List.map_map]
  exact he
end
def tailF (t : Int) : Str := Txt.join "" ((rangeL 0 (t / 26 % 8)).map fun j => (⟨#[lettersS.cps.toList.getD ((t + 5 * j * (1 + t % 3)) % 26).toNat 0]⟩ : Str))
def placeF (b s : Int) : Int := if b % 2 = 0 then b / 4 % (s + 1) else s
def turnF (b k : Int) : Int := b + 31 * k * (b % 2)
def lastS : Str := "kqxz"
def namesL : List Str := ["say", "mark", "by", "house"]
def rowAt (t at_ k : Int) : Str := cutS (tailF t) none (some at_) ++ ⟨#[lastS.cps.toList.getD (k % 4).toNat 0]⟩ ++ cutS (tailF t) (some at_) none
def rowF (b k : Int) : Str := if b % 9 = 4 then namesL.getD (k % 4).toNat "" else rowAt (turnF b k) (placeF b (turnF b k / 26 % 8)) k
def lowS (z : Str) : Prop := ∀ c ∈ z.cps.toList, c ∈ lettersS.cps.toList
theorem lowS_app {a b : Str} (h : lowS a) (g : lowS b) : lowS (a ++ b) := by
  intro c hc
  have e : (a ++ b).cps.toList = a.cps.toList ++ b.cps.toList := by
    show (a.cps ++ b.cps).toList = _
    simp
  rw [e] at hc
  rcases List.mem_append.mp hc with q | q
  · exact h c q
  · exact g c q
theorem lowS_cut {a : Str} (h : lowS a) (l u : Option Int) : lowS (cutS a l u) := by
  intro c hc
  unfold cutS at hc
  exact h c (List.mem_of_mem_drop (List.mem_of_mem_take (by simpa using hc)))
theorem join_cps (ys : List Str) : (Txt.join "" ys).cps.toList = (ys.map fun y => y.cps.toList).flatten := by
  have e := TL.tl_join ("" : Str) ys
  have e2 : ∀ ps : List (List Nat), TL.joinL [] ps = ps.flatten := by
    intro ps
    induction ps with
    | nil => rfl
    | cons p r ih =>
      cases r with
      | nil => simp [TL.joinL]
      | cons q r => simp only [TL.joinL, List.nil_append, List.flatten_cons] at ih ⊢; rw [ih]
  exact (congrArg TL.tl (TL.join_eq ("" : Str) ys)).trans (e.trans (e2 _))
theorem tail_len (t : Int) : (tailF t).length = (t / 26 % 8).toNat := by
  show (tailF t).cps.size = _
  rw [← Array.length_toList]
  unfold tailF
  rw [join_cps, List.map_map, List.length_flatten, List.map_map]
  have : (List.length ∘ ((fun y : Str => y.cps.toList) ∘ fun j : Int => (⟨#[lettersS.cps.toList.getD ((t + 5 * j * (1 + t % 3)) % 26).toNat 0]⟩ : Str))) = fun _ => 1 := by
    funext j; rfl
  rw [this]
  rw [show (List.map (fun _ : Int => 1) (rangeL 0 (t / 26 % 8))).sum = (rangeL 0 (t / 26 % 8)).length by
    generalize rangeL 0 (t / 26 % 8) = L
    induction L with
    | nil => rfl
    | cons a r ih => simp only [List.map_cons, List.sum_cons, List.length_cons, ih]; omega]
  rw [rangeL_len]
  simp
theorem letter_in (i : Int) (h0 : 0 ≤ i) (h1 : i < 26) : lettersS.cps.toList.getD i.toNat 0 ∈ lettersS.cps.toList := by
  have hl : lettersS.cps.toList.length = 26 := by decide +kernel
  have hi : i.toNat < lettersS.cps.toList.length := by omega
  rw [List.getD_eq_getElem?_getD, List.getElem?_eq_getElem hi]
  exact List.getElem_mem hi
theorem tail_low (t : Int) : lowS (tailF t) := by
  intro c hc
  unfold tailF at hc
  rw [join_cps] at hc
  obtain ⟨l, hl, hc⟩ := List.mem_flatten.mp hc
  obtain ⟨y, hy, rfl⟩ := List.mem_map.mp hl
  obtain ⟨j, _, rfl⟩ := List.mem_map.mp hy
  have e : c = lettersS.cps.toList.getD ((t + 5 * j * (1 + t % 3)) % 26).toNat 0 := by simpa using hc
  rw [e]
  exact letter_in _ (Int.emod_nonneg _ (by decide)) (Int.emod_lt_of_pos _ (by decide))
theorem last_low (k : Int) : lowS ⟨#[lastS.cps.toList.getD (k % 4).toNat 0]⟩ := by
  intro c hc
  have e : c = lastS.cps.toList.getD (k % 4).toNat 0 := by simpa using hc
  have hs : k % 4 = 0 ∨ k % 4 = 1 ∨ k % 4 = 2 ∨ k % 4 = 3 := by omega
  rw [e]
  rcases hs with h | h | h | h <;> rw [h] <;> decide +kernel
theorem place_in (b s : Int) (h : 0 ≤ s) : 0 ≤ placeF b s ∧ placeF b s ≤ s := by
  unfold placeF
  split
  · exact ⟨Int.emod_nonneg _ (by omega), by have := Int.emod_lt_of_pos (b / 4) (show 0 < s + 1 by omega); omega⟩
  · exact ⟨h, Int.le_refl _⟩
theorem sIx_in {n : Nat} {d : Nat} {i : Int} (h0 : 0 ≤ i) (h1 : i ≤ n) : HT.sIx n d (some i) = i.toNat := by
  unfold HT.sIx
  simp only
  split <;> omega
theorem cut_lo {z : Str} {i : Int} (h0 : 0 ≤ i) (h1 : i ≤ z.length) : (cutS z none (some i)).cps.toList = z.cps.toList.take i.toNat := by
  unfold cutS
  rw [sIx_in h0 h1]
  simp [HT.sIx]
theorem cut_hi {z : Str} {i : Int} (h0 : 0 ≤ i) (h1 : i ≤ z.length) : (cutS z (some i) none).cps.toList = z.cps.toList.drop i.toNat := by
  unfold cutS
  rw [sIx_in h0 h1]
  have e : z.length = z.cps.size := rfl
  simp only [HT.sIx, e]
  rw [List.take_of_length_le (by simp)]
theorem row_cps (t at_ k : Int) (h0 : 0 ≤ at_) (h1 : at_ ≤ t / 26 % 8) : (rowAt t at_ k).cps.toList = (tailF t).cps.toList.take at_.toNat ++ [lastS.cps.toList.getD (k % 4).toNat 0] ++ (tailF t).cps.toList.drop at_.toNat := by
  have hl : at_ ≤ (tailF t).length := by rw [tail_len]; omega
  have e : (rowAt t at_ k).cps.toList = (cutS (tailF t) none (some at_)).cps.toList ++ [lastS.cps.toList.getD (k % 4).toNat 0] ++ (cutS (tailF t) (some at_) none).cps.toList := by
    unfold rowAt
    show ((cutS (tailF t) none (some at_)).cps ++ #[lastS.cps.toList.getD (k % 4).toNat 0] ++ (cutS (tailF t) (some at_) none).cps).toList = _
    simp
  rw [e, cut_lo h0 hl, cut_hi h0 hl]
theorem rowB_of {z : Str} (h1 : 1 ≤ z.length) (h2 : z.length ≤ 8) (h : lowS z) : rowB z = true := by
  unfold rowB rowLen
  rw [decide_eq_true (show (1 : Int) ≤ (z.length : Int) by omega), decide_eq_true (show (z.length : Int) ≤ 8 by omega)]
  simp only [Bool.and_self, Bool.true_and, Bool.not_eq_true', List.any_eq_false]
  intro d hd
  obtain ⟨c, hc, rfl⟩ := List.mem_map.mp hd
  simp [badSign, h c hc]
theorem row_ok (b k : Int) : rowB (rowF b k) = true := by
  unfold rowF
  split
  · have hs : k % 4 = 0 ∨ k % 4 = 1 ∨ k % 4 = 2 ∨ k % 4 = 3 := by omega
    rcases hs with h | h | h | h <;> rw [h] <;> decide +kernel
  · have hp := place_in b (turnF b k / 26 % 8) (by omega)
    generalize placeF b (turnF b k / 26 % 8) = at_ at *
    have hc := row_cps (turnF b k) at_ k hp.1 hp.2
    have hlen : (rowAt (turnF b k) at_ k).length = (turnF b k / 26 % 8).toNat + 1 := by
      show (rowAt (turnF b k) at_ k).cps.size = _
      rw [← Array.length_toList, hc]
      have : (tailF (turnF b k)).cps.toList.length = (turnF b k / 26 % 8).toNat := by rw [← tail_len]; simp; rfl
      simp only [List.length_append, List.length_take, List.length_drop, List.length_singleton, this]
      omega
    refine rowB_of (by omega) (by omega) ?_
    exact lowS_app (lowS_app (lowS_cut (tail_low _) _ _) (last_low _)) (lowS_cut (tail_low _) _ _)
end Dv
namespace Dv
open PySem L2 PyProof.Rows
/-! ### the truth of data -/
def truD : PyData → Bool := fun d => match d with
  | .none => false
  | .bool b => b
  | .int i => i != 0
  | .str z => (z.length : Int) != 0
  | .list ds => !ds.isEmpty
  | .tuple ds => !ds.isEmpty
  | .dict _ => false
def TruOk : PyData → Prop := fun d => match d with
  | .str z => z.length ≤ sizeLine
  | .dict _ => False
  | _ => True
theorem empty_dt {K : PySem.W.Frag} {H : Hp} {vs : List V} {ds : List PyData} (h : DtA K H vs ds) : vs.isEmpty = ds.isEmpty := by
  cases h <;> rfl
theorem tru_dt {K : PySem.W.Frag} {H Hd : Hp} {v : V} {d : PyData} (s : Same Hd H) (h : Dt K Hd v d) (ok : TruOk d) : TruV K v H (truD d) := by
  cases h with
  | non => exact rfl
  | bl b => exact rfl
  | int i => exact rfl
  | str z => exact ⟨ok, rfl⟩
  | lst r q => exact .inl ⟨_, s.seq r, by rw [empty_dt q]; rfl⟩
  | tup r q => exact .inr (.inl ⟨_, .inl (Rd.mono r s), by rw [empty_dt q]; rfl⟩)
  | dic r q => exact ok.elim
section
variable {F : Fr} {ρ : List Sl} {pos : Pos} {a b e : Expr} {d da db : PyData}
theorem dt_tru (h : DE F ρ e (.ok d)) (ok : TruOk d) (he : ∀ whole, isTrue e F.X.env whole = (do let v ← whole; standAt e.pos; holding [v] (truthy v)) := by intro _; rfl) : DT F ρ e (truD d) :=
  ⟨pt_imp (pt_truth h.pe he) fun σ H Q ⟨Hd, at0, k⟩ => tE_ok at0 fun v H1 Hd1 g1 d1 => ⟨_, tru_dt g1.dh d1 ok, k H1 Hd1 g1⟩⟩
theorem de_orT1 (h : DE F ρ a (.ok da)) (ok : TruOk da) (t : truD da = true) : DE F ρ (.BoolOp .Or [a, b] pos) (.ok da) :=
  ⟨pe_imp (pe_orT h.pe pe_u) fun σ H Q ⟨Hd, at0, k⟩ => tE_ok at0 fun v H1 Hd1 g1 d1 => ⟨_, tru_dt g1.dh d1 ok, by rw [t, if_pos rfl]; exact k v H1 Hd1 g1 d1⟩⟩
theorem de_orF1 (h : DE F ρ a (.ok da)) (ok : TruOk da) (t : truD da = false) (hb : DE F ρ b (.ok db)) : DE F ρ (.BoolOp .Or [a, b] pos) (.ok db) :=
  ⟨pe_imp (pe_orT h.pe (de_one hb).pe) fun σ H Q ⟨Hd, at0, k⟩ => tE_ok at0 fun v H1 Hd1 g1 d1 => ⟨_, tru_dt g1.dh d1 ok, by
    rw [t, if_neg (fun z => nomatch z)]
    exact ⟨Hd1, at0.go g1, fun u H2 Hd2 g2 d2 => k u H2 Hd2 (g1.trans g2) d2⟩⟩⟩
end
end Dv
namespace Dv
open PySem L2 PyProof.Rows
/-! ### more of words -/
def unlikeB (k : Str) (m : Int) (r : Str) (h : Int) (k' : Str) (m' : Int) (r' : Str) (h' : Int) : Bool := decide (k = k') && (decide (m = m') && (decide (h = h') && !decide (r = r')))
def g_unlike : List PyData → Res → Prop := fun ds res => ∃ k m r h k' m' r' h', ds = [wordD k m r h, wordD k' m' r' h'] ∧ res = .ok (.bool (unlikeB k m r h k' m' r' h'))
theorem g_unlike_i {k : Str} {m : Int} {r : Str} {h : Int} {k' : Str} {m' : Int} {r' : Str} {h' : Int} : g_unlike [wordD k m r h, wordD k' m' r' h'] (.ok (.bool (unlikeB k m r h k' m' r' h'))) := ⟨k, m, r, h, k', m', r', h', rfl, rfl⟩
def g_at : List PyData → Res → Prop := fun ds r => ∃ (ns : List Int) (k : Int), ds = [.list (ns.map .int), .int k] ∧ 0 ≤ k ∧ r = .ok (.int (atL ns k))
theorem g_at_i {ns : List Int} {k : Int} (h : 0 ≤ k) : g_at [.list (ns.map .int), .int k] (.ok (.int (atL ns k))) := ⟨ns, k, rfl, h, rfl⟩
theorem at_in {ns : List Int} {k : Int} (h0 : 0 ≤ k) (h1 : k < (ns.map PyData.int).length) : atI (ns.map PyData.int) k = some (.int (atL ns k)) := by
  rw [atI_in (.int 0) h0 (by omega)]
  unfold atL
  rw [List.getD_eq_getElem?_getD, List.getD_eq_getElem?_getD, List.getElem?_map]
  rw [List.length_map] at h1
  rw [List.getElem?_eq_getElem (by omega)]
  rfl
theorem at_out {ns : List Int} {k : Int} (h0 : 0 ≤ k) (h1 : ¬ k < (ns.map PyData.int).length) : atL ns k = 0 := by
  unfold atL
  rw [List.length_map] at h1
  rw [List.getD_eq_getElem?_getD, List.getElem?_eq_none (by omega)]
  rfl
def numF (c : Int) : Int := if c / 60 % 2 = 0 then c / 2 % 30 else 9999 - c / 2 % 30
def wordF (c n b : Int) : PyData := if c % 2 = 0 then wordD "say" (numF c) (rowF b (c / 120 % 4)) (numF c % n) else wordD "mark" (numF c) (rowF b (c / 120 % 4)) (c / 480 % n)
theorem wordF_is (c n b : Int) (h1 : 1 ≤ n) (h2 : n ≤ 12) : ∃ k m r h, wordF c n b = wordD k m r h ∧ (k = "say" ∨ k = "mark") ∧ 0 ≤ m ∧ m ≤ 9999 ∧ rowB r = true ∧ 0 ≤ h ∧ h ≤ n - 1 ∧ isWord n (wordD k m r h) = true := by
  have hm : 0 ≤ numF c ∧ numF c ≤ 9999 := by unfold numF; split <;> omega
  have hr := row_ok b (c / 120 % 4)
  unfold wordF
  split
  · have hh := rem_in (c := numF c) h1 h2
    refine ⟨_, _, _, _, rfl, .inl rfl, hm.1, hm.2, hr, hh.1, hh.2, ?_⟩
    rw [show ∀ a b c d, isWord n (wordD a b c d) = partsB n (.str a) (.int b) (.str c) (.int d) from fun _ _ _ _ => rfl]
    simp [partsB, callerB, among_in hm.1 hm.2, among_in hh.1 hh.2, isRow, hr]
  · have hh := rem_in (c := c / 480) h1 h2
    refine ⟨_, _, _, _, rfl, .inr rfl, hm.1, hm.2, hr, hh.1, hh.2, ?_⟩
    rw [show ∀ a b c d, isWord n (wordD a b c d) = partsB n (.str a) (.int b) (.str c) (.int d) from fun _ _ _ _ => rfl]
    simp [partsB, callerB, among_in hm.1 hm.2, among_in hh.1 hh.2, isRow, hr]
theorem tail_7 (t : Int) : (tailF t).length ≤ 7 := by rw [tail_len]; omega
theorem tail_line (t : Int) : (tailF t).length ≤ sizeLine := Nat.le_trans (tail_7 t) (Nat.le_of_ble_eq_true rfl)
theorem tail_l1 (t : Int) {l u : Option Int} {c : Nat} : (cutS (tailF t) l u).length + (⟨#[c]⟩ : Str).length ≤ sizeLine := by
  have h1 := cutS_length (tailF t) l u
  have h2 := tail_7 t
  exact Nat.le_trans (show _ + 1 ≤ 100 by omega) (Nat.le_of_ble_eq_true rfl)
theorem len_app (a b : Str) : (a ++ b).length = a.length + b.length := by
  show (a.cps ++ b.cps).size = a.cps.size + b.cps.size
  simp
theorem tail_l2 (t : Int) {l u l' u' : Option Int} {c : Nat} : (cutS (tailF t) l u ++ (⟨#[c]⟩ : Str)).length + (cutS (tailF t) l' u').length ≤ sizeLine := by
  have h1 := cutS_length (tailF t) l u
  have h3 := cutS_length (tailF t) l' u'
  have h2 := tail_7 t
  rw [len_app]
  exact Nat.le_trans (show _ + 1 + _ ≤ 100 by omega) (Nat.le_of_ble_eq_true rfl)
end Dv
namespace Dv
open PySem L2 PyProof.Rows
section
variable {F : Fr} {ρ ρ' : List Sl} {pos : Pos} {a c e : Expr} {A rest : List Stmt} {o : Out} {x : Bool} {d : PyData}
/-! ### one statement at a time -/
theorem db_skip (h : DT F ρ c x) (hx : x = false) (r : DB F ρ rest o) : DB F ρ (.If c A [] pos :: rest) o := by
  subst hx
  exact db_seq (ds_ifF h db_nil) (aft_nx r)
theorem db_then {stm : Stmt} (h : DS F ρ stm (.nx ρ')) (r : DB F ρ' rest o) : DB F ρ (stm :: rest) o := db_seq h (aft_nx r)
theorem nb_F {b : Bool} (h : b = true) : (!b) = false := by rw [h]; rfl
theorem nb_T {b : Bool} (h : b = false) : (!b) = true := by rw [h]; rfl
/-! ### {} -/
theorem de_dnew : DE F ρ (.Dict [] [] pos) (.ok (.dict [])) := ⟨pe_imp pe_dnewK fun σ H Q ⟨Hd, at0, k⟩ => fun p hp => k _ _ (L2.upd Hd p (.dK [])) (.new at0.s hp) (.dic upd_same .nil)⟩
end
/-! ### cuts -/
theorem cutD_len (ds : List PyData) (l u : Option Int) : (cutD ds l u).length ≤ ds.length := by
  unfold cutD
  rw [List.length_take, List.length_drop]
  omega
theorem cutD_mem {ds : List PyData} {l u : Option Int} {x : PyData} (h : x ∈ cutD ds l u) : x ∈ ds := List.mem_of_mem_drop (List.mem_of_mem_take h)
/-! ### a thing that may be a word -/
def otherOk (d : PyData) : Prop := (∃ ds, (d = .tuple ds ∨ d = .list ds) ∧ ds.length ≤ 100 ∧ ∀ x ∈ ds, leafOk x) ∨ d = .none
def osOf : PyData → List PyData := fun d => match d with
  | .tuple ds => ds
  | .list ds => ds
  | _ => []
theorem osOf_leaf {d : PyData} (h : otherOk d) : (osOf d).length ≤ 100 ∧ ∀ x ∈ osOf d, leafOk x := by
  rcases h with ⟨ds, rfl | rfl, h1, h2⟩ | rfl
  · exact ⟨h1, h2⟩
  · exact ⟨h1, h2⟩
  · exact ⟨Nat.zero_le _, fun x hx => nomatch hx⟩
theorem wOk_other {d : PyData} (h : otherOk d) : wOk d := by
  rcases h with ⟨ds, rfl | rfl, h1, h2⟩ | rfl
  · exact h2
  · trivial
  · trivial
section
variable {F : Fr} {ρ : List Sl} {pos p1 p2 p3 : Pos} {a : Expr} {x1 : Nat}
/-- list(a or ()) -/
theorem de_listOr {d : PyData} (h : DE F ρ a (.ok d)) (ok : otherOk d) (hg : Gl F.X "list" := by rfl) (he : starEach [.BoolOp .Or [a, .Tuple [] x1 p2] p3] F.X.env = (false, eval (.BoolOp .Or [a, .Tuple [] x1 p2] p3) F.X.env) :: starEach [] F.X.env := by rfl) :
    DE F ρ (.Call (.Name "list" p1) [.BoolOp .Or [a, .Tuple [] x1 p2] p3] [] pos) (.ok (.list (osOf d))) := by
  have hn : DE F ρ (.Tuple [] x1 p2) (.ok (.tuple [])) := de_tup da_nil (Nat.le_of_ble_eq_true rfl)
  rcases ok with ⟨ds, rfl | rfl, _, _⟩ | rfl
  · cases ds with
    | nil => exact de_listC (da_cons (de_orF1 h trivial rfl hn) da_nil he) cd_listU hg he
    | cons y r => exact de_listC (da_cons (de_orT1 h trivial rfl) da_nil he) cd_listU hg he
  · cases ds with
    | nil => exact de_listC (da_cons (de_orF1 h trivial rfl hn) da_nil he) cd_listU hg he
    | cons y r => exact de_listC (da_cons (de_orT1 h trivial rfl) da_nil he) cd_listL hg he
  · exact de_listC (da_cons (de_orF1 h trivial rfl hn) da_nil he) cd_listU hg he
end
/-! ### drawn signs -/
def signsS : Str := " !\"#$&'()*+,-./0123456789:;<=>?@ABCDEFGHIJKLMNOPQRSTUVWXYZ[\\]^_`{|}~\n\t"
def signF (c : Int) : Str := ⟨#[signsS.cps.toList.getD (c % (signsS.length : Int)).toNat 0]⟩
theorem signs_pos : (0 : Int) < (signsS.length : Int) := by decide +kernel
theorem signs_len : signsS.cps.toList.length = signsS.length := by simp; rfl
theorem signF_ok (c : Int) : PyData.strOk (signF c) = true := by
  have hl : ∀ x ∈ signsS.cps.toList, x < 0x110000 := by decide +kernel
  have h1 := Int.emod_nonneg c (show (signsS.length : Int) ≠ 0 from by have := signs_pos; omega)
  have h2 := Int.emod_lt_of_pos c signs_pos
  have hi : (c % (signsS.length : Int)).toNat < signsS.cps.toList.length := by rw [signs_len]; omega
  have hm : signsS.cps.toList.getD (c % (signsS.length : Int)).toNat 0 ∈ signsS.cps.toList := by
    rw [List.getD_eq_getElem?_getD, List.getElem?_eq_getElem hi]
    exact List.getElem_mem hi
  have e : ∀ y : Nat, y < 0x110000 → PyData.strOk ⟨#[y]⟩ = true := fun y h => by simp [PyData.strOk, h]
  exact e _ (hl _ hm)
theorem signF_leaf (c : Int) : leafOk (.str (signF c)) := ⟨by show (1 : Nat) ≤ 1000; decide, signF_ok c⟩
def g_sign : List PyData → Res → Prop := fun ds r => ∃ c, ds = [.int c] ∧ r = .ok (.str (signF c))
theorem g_sign_i {c : Int} : g_sign [.int c] (.ok (.str (signF c))) := ⟨c, rfl, rfl⟩
theorem sign_at (c : Int) : atI signsS.cps.toList (c % (signsS.length : Int)) = some (signsS.cps.toList.getD (c % (signsS.length : Int)).toNat 0) :=
  atI_n signsS.length 0 signs_len (Int.emod_nonneg c (show (signsS.length : Int) ≠ 0 from by have := signs_pos; omega)) (Int.emod_lt_of_pos c signs_pos)
end Dv
namespace Dv
open PySem L2 PyProof.Rows
section
variable {F : Fr} {ρ : List Sl} {pos : Pos} {e : Expr} {es : List Expr} {C : Addr}
/-! ### split, two targets, an error within a display -/
theorem de_split {o : Expr} {apos : Pos} {z y : Str} {ps : List Str} (ho : DE F ρ o (.ok (.str z))) (he : DE F ρ e (.ok (.str y))) (hy : (y.length == 0) = false) (hz : z.length + 2 ≤ sizeLine) (hp : Txt.split z y = ps) (hs : starEach [e] F.X.env = [(false, eval e F.X.env)] := by rfl)
    (hbase : attributeBase o "split" F.X.env (eval o F.X.env) = eval o F.X.env := by rfl) (hline : (apos.endLine == pos.line) = true := by rfl) : DE F ρ (.Call (.Attribute o "split" apos) [e] [] pos) (.ok (.list (ps.map .str))) :=
  ⟨pe_imp (pe_split ho.pe he.pe hs hbase hline) fun σ H Q ⟨Hd, a, k⟩ => tE_ok a fun x H1 Hd1 g1 dx => by
    cases dx
    refine ⟨⟨z, rfl⟩, tE_ok (a.go g1) fun y' H2 Hd2 g2 dy => ?_⟩
    cases dy
    refine ⟨z, y, rfl, rfl, hy, hz, fun p hp' => ?_⟩
    rw [hp]
    exact k _ _ (L2.upd Hd2 p (.lst (ps.map V.str))) ((g1.trans g2).trans (.new g2.dh hp')) (.lst (.inl (.inl upd_same)) (DtA.strs ps))⟩
theorem de_list1E (h : DE F ρ e (.er C)) (hs : starEach [e] F.X.env = (false, eval e F.X.env) :: starEach [] F.X.env := by rfl) : DE F ρ (.List [e] pos) (.er C) :=
  ⟨pe_imp (pe_lst (pa_cons h.pe pa_nil hs)) fun σ H Q q => q⟩
end
def bTwo (i j : Nat) : PyData → List Sl → Option (List Sl) := fun d ρ => match d with
  | .tuple [a, b] => some ((ρ.set i (.da a)).set j (.da b))
  | _ => none
theorem tg_two {K : PySem.W.Frag} {i j : Nat} : TgOk K (gTup K 2 (gCons (gName i) (gCons (gName j) gNil))) (bTwo i j) [i, j] := fun d ρ ρ' e v σ H Hd Q s q dv k => by
  cases dv with
  | @tup p xs ds r da =>
    cases da with
    | nil => cases e
    | @cons v1 vs d1 ds1 q1 da1 =>
      cases da1 with
      | nil => cases e
      | @cons v2 vs2 d2 ds2 q2 da2 =>
        cases da2 with
        | cons _ _ => cases e
        | nil =>
          cases e
          refine ⟨p, [v1, v2], rfl, .inl (Rd.mono r s), rfl, v1, [v2], rfl, v2, [], rfl, rfl, ?_⟩
          refine k _ (EnvD.set j (EnvD.set i q ⟨v1, rfl, q1⟩) ⟨v2, rfl, q2⟩) ?_
          show ((((σ.set i (some v1)).set j (some v2)).set j none).set i none) = (σ.set j none).set i none
          by_cases h : i = j
          · subst h; simp
          · rw [List.set_set, List.set_comm _ _ h, List.set_set, List.set_comm _ _ (Ne.symm h)]
  | _ => cases e
/-! ### figures -/
def figS : Str := "0123456789"
def badFig : PyData → Bool := fun d => match d with
  | .str s => !decide (s.cps.toList.headD 0 ∈ figS.cps.toList)
  | _ => false
def lenB (z : Str) : Bool := decide ((1 : Int) ≤ (z.length : Int)) && decide ((z.length : Int) ≤ 4)
def leadB (z : Str) : Bool := decide ((⟨#[z.cps.toList.headD 0]⟩ : Str) = "0") && !decide (z = "0")
def numD (z : Str) : PyData := if lenB z = true ∧ leadB z = false ∧ (Dv.signs z).any badFig = false then .int ((NumText.digitsVal z.cps.toList : Nat) : Int) else .none
theorem fig_digits {z : Str} (h : (Dv.signs z).any badFig = false) : NumText.AllDigits z.cps.toList := by
  have hl : ∀ c ∈ figS.cps.toList, 48 ≤ c ∧ c ≤ 57 := by decide +kernel
  intro c hc
  rw [List.any_eq_false] at h
  have q := h (.str ⟨#[c]⟩) (List.mem_map.mpr ⟨c, hc, rfl⟩)
  exact hl c (by simpa [badFig] using q)
theorem digits_fig {z : Str} (h : NumText.AllDigits z.cps.toList) : (Dv.signs z).any badFig = false := by
  have hl : ∀ k : Fin 10, (48 + k.val) ∈ figS.cps.toList := by decide +kernel
  rw [List.any_eq_false]
  intro d hd
  obtain ⟨c, hc, rfl⟩ := List.mem_map.mp hd
  have q := h c hc
  have q2 := hl ⟨c - 48, by omega⟩
  have e : 48 + (c - 48) = c := by omega
  rw [show (48 + (⟨c - 48, by omega⟩ : Fin 10).val) = c from e] at q2
  simp only [badFig, List.headD, Bool.not_eq_true]
  simpa using q2
theorem int_of {z : Str} (h1 : lenB z = true) (h2 : (Dv.signs z).any badFig = false) : PySem.intText? z = some ((NumText.digitsVal z.cps.toList : Nat) : Int) := by
  have hd := fig_digits h2
  have hl : 1 ≤ z.length ∧ z.length ≤ 4 := by
    simp only [lenB, Bool.and_eq_true, decide_eq_true_eq] at h1
    omega
  have e : z.length = z.cps.toList.length := by simp; rfl
  refine intText_digits (x := z) hd (fun q => ?_) (by omega)
  rw [q] at e
  simp at e
  omega
theorem lenB_in {z : Str} (h1 : lenB z = true) : 1 ≤ z.length ∧ z.length ≤ 4 := by
  simp only [lenB, Bool.and_eq_true, decide_eq_true_eq] at h1
  omega
theorem head_at {z : Str} (h1 : 1 ≤ z.length) : atI z.cps.toList 0 = some (z.cps.toList.headD 0) := by
  have e : z.length = z.cps.toList.length := by simp; rfl
  rw [atI_in 0 (by omega) (by omega)]
  cases q : z.cps.toList with
  | nil => rw [q] at e; simp at e; omega
  | cons c r => rfl
/-! ### the text of a word -/
def numS (m : Int) : Str := toString m
theorem numS_tl (n : Nat) : TL.tl (numS (n : Int)) = TL.numL n := TL.tl_num n
theorem numL_head {n : Nat} : ∀ r, TL.numL n = 48 :: r → n = 0 := by
  induction n using Nat.strongRecOn with
  | _ n ih =>
    intro r h
    by_cases q : n < 10
    · rw [TL.numL_lt q] at h
      simp at h
      omega
    · rw [TL.numL_step (by omega)] at h
      cases e : TL.numL (n / 10) with
      | nil => exact absurd e (TL.numL_ne _)
      | cons c t =>
        rw [e] at h
        simp at h
        have := ih (n / 10) (by omega) t (by rw [e, h.1])
        omega
theorem numS_len {m : Int} (h0 : 0 ≤ m) (h1 : m ≤ 9999) : 1 ≤ (numS m).length ∧ (numS m).length ≤ 4 := by
  obtain ⟨n, rfl⟩ := Int.eq_ofNat_of_zero_le h0
  rw [TL.len_tl, numS_tl]
  have := TL.numL_len (n := n) (k := 4) (by decide) (by omega)
  have h2 : (TL.numL n).length ≠ 0 := fun e => TL.numL_ne n (List.length_eq_zero_iff.mp e)
  omega
theorem numS_back {m : Int} (h0 : 0 ≤ m) (h1 : m ≤ 9999) : numD (numS m) = .int m := by
  have hl := numS_len h0 h1
  obtain ⟨n, rfl⟩ := Int.eq_ofNat_of_zero_le h0
  have e : (numS (n : Int)).cps.toList = TL.numL n := numS_tl n
  have a1 : lenB (numS (n : Int)) = true := by
    unfold lenB
    rw [decide_eq_true (show (1 : Int) ≤ ((numS (n : Int)).length : Int) by omega), decide_eq_true (show ((numS (n : Int)).length : Int) ≤ 4 by omega)]
    rfl
  have a3 : (Dv.signs (numS (n : Int))).any badFig = false := digits_fig (by rw [e]; exact TL.numL_digits n)
  have a2 : leadB (numS (n : Int)) = false := by
    unfold leadB
    rw [e]
    by_cases q : n = 0
    · subst q
      have : numS ((0 : Nat) : Int) = "0" := by
        apply TL.ext_tl
        rw [numS_tl, TL.numL_lt (by decide)]
        rfl
      rw [this]
      simp
    · have : ¬ ((⟨#[(TL.numL n).headD 0]⟩ : Str) = "0") := by
        intro z
        have z2 : (TL.numL n).headD 0 = 48 := by
          have := congrArg TL.tl z
          have e0 : TL.tl ("0" : Str) = [48] := by decide +kernel
          rw [e0] at this
          exact (List.cons.inj this).1
        cases w : TL.numL n with
        | nil => exact TL.numL_ne n w
        | cons c r =>
          rw [w] at z2
          exact q (numL_head r (by rw [w]; simp at z2; rw [z2]))
      rw [decide_eq_false this]
      rfl
  unfold numD
  rw [if_pos ⟨a1, a2, a3⟩, e, TL.numL_val]
def shownF (k : Str) (m : Int) (r : Str) (h : Int) : Str := k ++ " " ++ numS m ++ " " ++ r ++ " by " ++ numS h
def partsF (k : Str) (m : Int) (r : Str) (h : Int) : List Str := [k, numS m, r, "by", numS h]
theorem shown_join (k : Str) (m : Int) (r : Str) (h : Int) : shownF k m r h = Txt.join " " (partsF k m r h) := by
  apply TL.ext_tl
  rw [TL.join_eq, TL.tl_join]
  unfold shownF partsF
  simp only [TL.tl_append, List.map_cons, List.map_nil, TL.joinL]
  have e1 : TL.tl (" by " : Str) = TL.tl (" " : Str) ++ (TL.tl ("by" : Str) ++ TL.tl (" " : Str)) := by decide +kernel
  rw [e1]
  simp only [List.append_assoc]
theorem split_shown {k : Str} {m : Int} {r : Str} {h : Int} (hk : (32 : Nat) ∉ TL.tl k) (h0 : 0 ≤ m) (hr : (32 : Nat) ∉ TL.tl r) (h1 : 0 ≤ h) : Txt.split (shownF k m r h) " " = partsF k m r h := by
  rw [shown_join]
  refine TL.split_join (s := 32) (S := []) (by decide +kernel) (by decide +kernel) (by simp [partsF]) fun p hp => ?_
  simp only [partsF, List.mem_cons, List.mem_nil_iff, or_false] at hp
  rcases hp with rfl | rfl | rfl | rfl | rfl
  · exact hk
  · obtain ⟨n, rfl⟩ := Int.eq_ofNat_of_zero_le h0
    rw [numS_tl]; exact TL.numL_free (.inl (by decide))
  · exact hr
  · decide +kernel
  · obtain ⟨n, rfl⟩ := Int.eq_ofNat_of_zero_le h1
    rw [numS_tl]; exact TL.numL_free (.inl (by decide))
/-! ### parts of a text -/
theorem spl_in {S : List Nat} {Pc : Nat → Prop} : ∀ (l : List Nat) (k : Nat) (acc : List Nat), (∀ c ∈ acc, Pc c) → (∀ c ∈ l, Pc c) → ∀ p ∈ TL.spl S k acc l, (∀ c ∈ p, Pc c) ∧ p.length ≤ acc.length + l.length
  | [], k, acc, ha, hl, p, hp => by
    rw [TL.spl_nil] at hp
    rw [List.mem_singleton.mp hp]
    exact ⟨ha, by omega⟩
  | c :: r, 0, acc, ha, hl, p, hp => by
    have hr : ∀ c ∈ r, Pc c := fun x hx => hl x (List.mem_cons_of_mem _ hx)
    have hc := hl c List.mem_cons_self
    have hp' : p ∈ (if TL.pre S (c :: r) = true then acc :: TL.spl S (S.length - 1) [] r else TL.spl S 0 (acc ++ [c]) r) := hp
    split at hp'
    · rcases List.mem_cons.mp hp' with e | e
      · subst e; exact ⟨ha, by simp⟩
      · obtain ⟨q1, q2⟩ := spl_in r _ [] (fun x z => absurd z (by simp)) hr p e
        exact ⟨q1, by simp at q2 ⊢; omega⟩
    · obtain ⟨q1, q2⟩ := spl_in r 0 (acc ++ [c]) (fun x hx => by
        rcases List.mem_append.mp hx with z | z
        · exact ha x z
        · rw [List.mem_singleton.mp z]; exact hc) hr p hp'
      exact ⟨q1, by simp at q2 ⊢; omega⟩
  | c :: r, k + 1, acc, ha, hl, p, hp => by
    obtain ⟨q1, q2⟩ := spl_in r k acc ha (fun x hx => hl x (List.mem_cons_of_mem _ hx)) p hp
    exact ⟨q1, by simp; omega⟩
theorem strOk_iff (z : Str) : PyData.strOk z = true ↔ ∀ c ∈ z.cps.toList, c < 0x110000 := by
  unfold PyData.strOk
  rw [Array.all_eq_true']
  constructor
  · intro h c hc
    exact of_decide_eq_true (h c (Array.mem_toList_iff.mp hc))
  · intro h c hc
    exact decide_eq_true (h c (Array.mem_toList_iff.mpr hc))
theorem split_leaf {z : Str} (h : leafOk (.str z)) : ∀ p ∈ Txt.split z " ", leafOk (.str p) := by
  intro p hp
  have e := TL.split_spl z (" " : Str) (by decide +kernel) (TL.kind_ok (by decide +kernel))
  have hm : TL.tl p ∈ TL.spl (TL.tl (" " : Str)) 0 [] (TL.tl z) := by
    rw [← e]
    exact List.mem_map.mpr ⟨p, hp, rfl⟩
  obtain ⟨q1, q2⟩ := spl_in (Pc := fun c => c < 0x110000) _ _ _ (fun x z => absurd z (by simp)) ((strOk_iff z).mp h.2) _ hm
  refine ⟨?_, (strOk_iff p).mpr q1⟩
  have h1 := h.1
  rw [TL.len_tl] at h1 ⊢
  rw [List.length_nil] at q2
  have e3 : z.cps.toList.length = (TL.tl z).length := rfl
  omega
/-- what is read -/
def fiveD (n : Int) (p0 p1 p2 p3 p4 : Str) : PyData := if p3 = "by" then (if isWord n (.tuple [.str p0, numD p1, .str p2, numD p4]) = true then .tuple [.str p0, numD p1, .str p2, numD p4] else .none) else .none
def readP (n : Int) (ps : List Str) : PyData := match ps with
  | [p0, p1, p2, p3, p4] => fiveD n p0 p1 p2 p3 p4
  | _ => .none
def readD (n : Int) : PyData → PyData := fun x => match x with
  | .str z => readP n (Txt.split z " ")
  | _ => .none
theorem readP_len {n : Int} {ps : List Str} (h : ps.length ≠ 5) : readP n ps = .none := by
  match ps, h with
  | [], _ => rfl
  | [_], _ => rfl
  | [_, _], _ => rfl
  | [_, _, _], _ => rfl
  | [_, _, _, _], _ => rfl
  | [_, _, _, _, _], h => exact absurd rfl h
  | _ :: _ :: _ :: _ :: _ :: _ :: _, _ => rfl
end Dv
namespace Dv
open PySem L2 PyProof.Rows
/-! ### mutable objects of a frame: fresh since its entry, outside the data heap -/
inductive MO where
  | l (ds : List PyData) | d (kvs : List (Key × PyData))
def MOk (K : PySem.W.Frag) (H Hd : Hp) (p : Addr) : MO → Prop
  | .l ds => ∃ vs, H p = some (.lst vs) ∧ DtA K Hd vs ds
  | .d kvs => ∃ us, H p = some (.dK us) ∧ us.map (·.1) = kvs.map (·.1) ∧ DtA K Hd (us.map (·.2)) (kvs.map (·.2))
abbrev Mt := List (Addr × MO)
def MtOk (K : PySem.W.Frag) (M : Mt) (H Hd : Hp) : Prop := ∀ e ∈ M, MOk K H Hd e.1 e.2 ∧ Hd e.1 = none
theorem MOk.live {K : PySem.W.Frag} {H Hd : Hp} {p : Addr} {m : MO} (h : MOk K H Hd p m) : H p ≠ none := by
  cases m with
  | l ds => obtain ⟨vs, e, _⟩ := h; rw [e]; exact fun z => nomatch z
  | d kvs => obtain ⟨us, e, _⟩ := h; rw [e]; exact fun z => nomatch z
theorem MOk.mono {K : PySem.W.Frag} {H Hd H' Hd' : Hp} {p : Addr} {m : MO} (h : MOk K H Hd p m) (e : ∀ o, H p = some o → H' p = some o) (s : Same Hd Hd') : MOk K H' Hd' p m := by
  cases m with
  | l ds => obtain ⟨vs, q, d⟩ := h; exact ⟨vs, e _ q, d.mono s⟩
  | d kvs => obtain ⟨us, q, k, d⟩ := h; exact ⟨us, e _ q, k, d.mono s⟩
theorem MtOk.go {K : PySem.W.Frag} {M : Mt} {H Hd H' Hd' : Hp} (h : MtOk K M H Hd) (g : Grw H Hd H' Hd') : MtOk K M H' Hd' := fun e he =>
  ⟨(h e he).1.mono (fun o q => g.hh _ _ q) g.dd, g.fr _ (h e he).1.live (h e he).2⟩
/-- change at the addresses A alone -/
structure Mg (A : List Addr) (H Hd H' Hd' : Hp) : Prop where
  hh : ∀ a o, a ∉ A → H a = some o → H' a = some o
  dd : Same Hd Hd'
  dh : Same Hd' H'
  fr : ∀ a, H a ≠ none → Hd a = none → Hd' a = none
theorem Mg.of {A : List Addr} {H Hd H' Hd' : Hp} (g : Grw H Hd H' Hd') : Mg A H Hd H' Hd' := ⟨fun a o _ e => g.hh _ _ e, g.dd, g.dh, g.fr⟩
/-- from the entry on -/
theorem Grw.mg {A : List Addr} {H0 Hd0 H Hd H' Hd' : Hp} (g : Grw H0 Hd0 H Hd) (n : ∀ a ∈ A, H0 a = none) (m : Mg A H Hd H' Hd') : Grw H0 Hd0 H' Hd' where
  hh := fun a o e => m.hh a o (fun z => by rw [n a z] at e; cases e) (g.hh a o e)
  dd := g.dd.trans m.dd
  dh := m.dh
  fr := fun a h1 h2 => m.fr a (Same.ne g.hh h1) (g.fr a h1 h2)
def Fr.mt (F : Fr) (M : Mt) : Fr where
  X := F.X
  o := { W := F.o.W, Ψ := fun H Hd => MtOk F.X.K M H Hd, st := fun h g => h.go g }
  tk := F.tk
  hu := F.hu
  bl := F.bl
  po := F.po
  nd := F.nd
inductive XOut where
  | ret (d : PyData) | nx (ρ : List Sl) (M : Mt) | bk (ρ : List Sl) (M : Mt) | ct (ρ : List Sl) (M : Mt) | er (C : Addr)
def kX (K : PySem.W.Frag) (w : Ow) (D : Ends) (H0 Hd0 Hb : Hp) : XOut → Prop
  | .ret d => ∀ v H' Hd', Grw H0 Hd0 H' Hd' → Dt K Hd' v d → D.rt v H'
  | .nx ρ M => ∀ σ' H' Hd', Grw H0 Hd0 H' Hd' → Same Hb Hd' → EnvD K Hd' σ' ρ → MtOk K M H' Hd' → D.nx σ' H'
  | .bk ρ M => ∀ σ' H' Hd', Grw H0 Hd0 H' Hd' → Same Hb Hd' → EnvD K Hd' σ' ρ → MtOk K M H' Hd' → D.bk σ' H'
  | .ct ρ M => ∀ σ' H' Hd', Grw H0 Hd0 H' Hd' → Same Hb Hd' → EnvD K Hd' σ' ρ → MtOk K M H' Hd' → D.ct σ' H'
  | .er C => ∀ σ' H' Hd', Grw H0 Hd0 H' Hd' → w.W (.ref C) none σ' H'
/-- the state: the entry's heaps H0, Hd0, the mutables M fresh there -/
structure AtX (K : PySem.W.Frag) (M : Mt) (ρ : List Sl) (σ : L2.St) (H0 Hd0 Hb H Hd : Hp) : Prop where
  g : Grw H0 Hd0 H Hd
  b : Same Hb Hd
  e : EnvD K Hd σ ρ
  m : MtOk K M H Hd
  n : ∀ e ∈ M, H0 e.1 = none
  u : (M.map (·.1)).Nodup
def tX (K : PySem.W.Frag) (w : Ow) (M : Mt) (ρ : List Sl) (o : XOut) : TS := fun D σ H => ∃ H0 Hd0 Hb Hd, AtX K M ρ σ H0 Hd0 Hb H Hd ∧ kX K w D H0 Hd0 Hb o
structure DX (F : Fr) (M : Mt) (ρ : List Sl) (sts : List Stmt) (o : XOut) : Prop where
  pb : PSs F.X sts (tX F.X.K F.o M ρ o)
section
variable {F : Fr} {M M' : Mt} {ρ ρ' : List Sl} {pos : Pos} {c e : Expr} {rest A B : List Stmt} {st : Stmt} {o oa : XOut} {d : PyData} {C : Addr} {x : Bool}
theorem AtX.at {w : Ow} {σ : L2.St} {H0 Hd0 Hb H Hd : Hp} {K : PySem.W.Frag} (a : AtX K M ρ σ H0 Hd0 Hb H Hd) (h : w.Ψ = fun H Hd => MtOk K M H Hd) : At K w ρ σ H Hd := ⟨a.g.dh, a.e, by rw [h]; exact a.m⟩
theorem AtX.go {K : PySem.W.Frag} {σ σ' : L2.St} {H0 Hd0 Hb H Hd H' Hd' : Hp} (a : AtX K M ρ σ H0 Hd0 Hb H Hd) (g : Grw H Hd H' Hd') (e : EnvD K Hd' σ' ρ') : AtX K M ρ' σ' H0 Hd0 Hb H' Hd' := ⟨a.g.trans g, a.b.trans g.dd, e, a.m.go g, a.n, a.u⟩
/-- leaving the layer -/
def XOut.out : XOut → Out
  | .ret d => .ret d
  | .nx ρ _ => .nx ρ
  | .bk ρ _ => .bk ρ
  | .ct ρ _ => .ct ρ
  | .er C => .er C
theorem db_dx (h : DX F [] ρ A o) : DB F ρ A o.out := ⟨pss_imp h.pb fun D σ H ⟨Hd, a, k⟩ => ⟨H, Hd, Hd, Hd, ⟨.refl a.s, Same.refl _, a.e, (fun _ z => by cases z), (fun _ z => by cases z), List.nodup_nil⟩, by
  cases o with
  | ret d => exact k
  | er C => exact k
  | nx ρ M => exact fun σ' H' Hd' g _ e _ => k σ' H' Hd' g e
  | bk ρ M => exact fun σ' H' Hd' g _ e _ => k σ' H' Hd' g e
  | ct ρ M => exact fun σ' H' Hd' g _ e _ => k σ' H' Hd' g e⟩⟩
/-- any rest -/
theorem dx_step (h : PS F.X st t) (i : ∀ D σ H, tX F.X.K F.o M ρ o D σ H → t { D with nx := uB F.X rest D } σ H) : DX F M ρ (st :: rest) o := ⟨pss_imp (pss_cons h pss_u) fun D σ H q => i D σ H q⟩
theorem dx_nil : DX F M ρ [] (.nx ρ M) := ⟨pss_imp pss_nil fun D σ H ⟨H0, Hd0, Hb, Hd, a, k⟩ => k σ H Hd a.g a.b a.e a.m⟩
theorem dx_lift (h : DS (F.mt M) ρ st (.nx ρ')) (r : DX F M ρ' rest o) : DX F M ρ (st :: rest) o := dx_step h.ps fun D σ H ⟨H0, Hd0, Hb, Hd, a, k⟩ =>
  ⟨Hd, a.at rfl, fun σ' H' Hd' g e => ⟨_, r.pb, H0, Hd0, Hb, Hd', a.go g e, k⟩⟩
theorem dx_liftR (h : DS (F.mt M) ρ st (.ret d)) : DX F M ρ (st :: rest) (.ret d) := dx_step h.ps fun D σ H ⟨H0, Hd0, Hb, Hd, a, k⟩ =>
  ⟨Hd, a.at rfl, fun v H' Hd' g dv => k v H' Hd' (a.g.trans g) dv⟩
theorem dx_liftE (h : DS (F.mt M) ρ st (.er C)) : DX F M ρ (st :: rest) (.er C) := dx_step h.ps fun D σ H ⟨H0, Hd0, Hb, Hd, a, k⟩ =>
  ⟨Hd, a.at rfl, fun σ' H' Hd' g => k σ' H' Hd' (a.g.trans g)⟩
theorem dx_lift_ct (h : DS (F.mt M) ρ st (.ct ρ')) : DX F M ρ (st :: rest) (.ct ρ' M) := dx_step h.ps fun D σ H ⟨H0, Hd0, Hb, Hd, a, k⟩ =>
  ⟨Hd, a.at rfl, fun σ' H' Hd' g e => k σ' H' Hd' (a.g.trans g) (a.b.trans g.dd) e (a.m.go g)⟩
theorem DX.wk (h : DX F M ρ' A o) (w : Wk ρ ρ') : DX F M ρ A o := ⟨pss_imp h.pb fun D σ H ⟨H0, Hd0, Hb, Hd, a, k⟩ => ⟨H0, Hd0, Hb, Hd, ⟨a.g, a.b, EnvD.wk a.e w, a.m, a.n, a.u⟩, k⟩⟩
/-- a mutable that nobody names is let go -/
theorem DX.drop {q : Addr × MO} (h : DX F M ρ A o) : DX F (q :: M) ρ A o := ⟨pss_imp h.pb fun D σ H ⟨H0, Hd0, Hb, Hd, a, k⟩ => ⟨H0, Hd0, Hb, Hd, ⟨a.g, a.b, a.e, fun e z => a.m e (List.mem_cons_of_mem _ z), fun e z => a.n e (List.mem_cons_of_mem _ z), (List.nodup_cons.mp a.u).2⟩, k⟩⟩
/-! ### if -/
theorem dx_ifT (h : DT (F.mt M) ρ c x) (hx : x = true) (ha : DX F M ρ A oa) (r : ∀ ρ' M', oa = .nx ρ' M' → (∀ (H0 : Hp), (∀ e ∈ M, H0 e.1 = none) → ∀ e ∈ M', H0 e.1 = none) ∧ (M'.map (·.1)).Nodup ∧ DX F M' ρ' rest o) (q : (∀ ρ' M', oa ≠ .nx ρ' M') → oa = o) : DX F M ρ (.If c A B pos :: rest) o := by
  subst hx
  refine dx_step (ps_if h.pt pss_u pss_u) fun D σ H ⟨H0, Hd0, Hb, Hd, a, k⟩ => ?_
  refine ⟨Hd, a.at rfl, fun H1 Hd1 g1 => ?_⟩
  dsimp only
  rw [if_pos rfl]
  refine ⟨_, ha.pb, H0, Hd0, Hb, Hd1, a.go g1 (a.e.mono g1.dd), ?_⟩
  cases oa with
  | nx ρ' M' =>
    obtain ⟨n, u, r⟩ := r ρ' M' rfl
    exact fun σ' H' Hd' g sb e m => ⟨_, r.pb, H0, Hd0, Hb, Hd', ⟨g, sb, e, m, n H0 a.n, u⟩, k⟩
  | ret d => have := q (fun _ _ z => nomatch z); subst this; exact k
  | bk ρ1 M1 => have := q (fun _ _ z => nomatch z); subst this; exact k
  | ct ρ1 M1 => have := q (fun _ _ z => nomatch z); subst this; exact k
  | er C => have := q (fun _ _ z => nomatch z); subst this; exact k
theorem dx_skip (h : DT (F.mt M) ρ c x) (hx : x = false) (r : DX F M ρ rest o) : DX F M ρ (.If c A [] pos :: rest) o := dx_lift (by subst hx; exact ds_ifF h db_nil) r
/-! ### new ones -/
def NewE (F : Fr) (M : Mt) (ρ : List Sl) (e : Expr) (m : MO) : Prop := ∃ t, PE F.X e t ∧ ∀ σ H Hd Q, At F.X.K (F.mt M).o ρ σ H Hd → (∀ H' Hd' p ho, Grw H Hd H' Hd' → H' p = none → MOk F.X.K (L2.upd H' p ho) Hd' p m → Q (.ref p) (L2.upd H' p ho)) → t σ H Q
theorem EnvD.rfset {K : PySem.W.Frag} {H : Hp} {σ : L2.St} {p : Addr} (j : Nat) (h : EnvD K H σ ρ) : EnvD K H (σ.set j (some (.ref p))) (ρ.set j (.rf p)) := EnvD.set j h rfl
theorem dx_new {y : Str} {py : Pos} {m : MO} (h : NewE F M ρ e m) (r : ∀ p, DX F ((p, m) :: M) (ρ.set (nix F.X.N y) (.rf p)) rest o) (hi : F.X.N[nix F.X.N y]? = some y) (hl : Loc F.X.env.scope y) (hf : F.X.fn y = true ∨ F.X.env.scope.names.lookup y = some .local := by first | exact .inl rfl | exact .inr rfl)
    (hs : swapsWith e (some (.Name y py)) pos.line F.X.env = pure false := by rfl) : DX F M ρ (.Assign [.Name y py] e pos :: rest) o := by
  obtain ⟨t, pe, i⟩ := h
  refine dx_step (ps_set F.nd hi hl pe hs hf) fun D σ H ⟨H0, Hd0, Hb, Hd, a, k⟩ => ?_
  refine i σ H Hd _ (a.at rfl) fun H' Hd' p ho g hp hm => ?_
  have gn : Grw H' Hd' (L2.upd H' p ho) Hd' := .junk g.dh hp
  have a1 := a.go (g.trans gn) (σ' := σ.set (nix F.X.N y) (some (.ref p))) (ρ' := ρ.set (nix F.X.N y) (.rf p)) (EnvD.rfset _ (a.e.mono g.dd))
  refine ⟨_, (r p).pb, H0, Hd0, Hb, Hd', ⟨a1.g, a1.b, a1.e, fun q hq => ?_, fun q hq => ?_, List.nodup_cons.mpr ⟨fun z => ?_, a.u⟩⟩, k⟩
  · rcases List.mem_cons.mp hq with e1 | e1
    · subst e1
      exact ⟨hm, g.dh.free hp⟩
    · exact a1.m q e1
  · rcases List.mem_cons.mp hq with e1 | e1
    · subst e1
      exact (a.g.trans g).hh.free hp
    · exact a.n q e1
  · obtain ⟨q, hq, e1⟩ := List.mem_map.mp z
    have := ((a.m.go g) q hq).1.live
    rw [e1] at this
    exact this hp
theorem ne_list : NewE F M ρ (.List [] pos) (.l []) := ⟨_, pe_lst pa_nil, fun σ H Hd Q a k => ⟨Nat.zero_le _, fun p hp => k H Hd p _ (.refl a.s) hp ⟨[], upd_same, .nil⟩⟩⟩
theorem ne_dict : NewE F M ρ (.Dict [] [] pos) (.d []) := ⟨_, pe_dnewK, fun σ H Hd Q a k => fun p hp => k H Hd p _ (.refl a.s) hp ⟨[], upd_same, rfl, .nil⟩⟩
/-! ### change -/
def MutS (F : Fr) (M : Mt) (ρ : List Sl) (st : Stmt) (M' : Mt) (ρ' : List Sl) : Prop := M'.map (·.1) = M.map (·.1) ∧ ∃ t, PS F.X st t ∧ ∀ D σ H Hd, At F.X.K (F.mt M).o ρ σ H Hd → (∀ σ' H' Hd', Mg (M.map (·.1)) H Hd H' Hd' → EnvD F.X.K Hd' σ' ρ' → MtOk F.X.K M' H' Hd' → D.nx σ' H') → t D σ H
theorem dx_mut (h : MutS F M ρ st M' ρ') (r : DX F M' ρ' rest o) : DX F M ρ (st :: rest) o := by
  obtain ⟨em, t, ps, i⟩ := h
  refine dx_step ps fun D σ H ⟨H0, Hd0, Hb, Hd, a, k⟩ => i _ σ H Hd (a.at rfl) fun σ' H' Hd' g e m => ⟨_, r.pb, H0, Hd0, Hb, Hd', ⟨a.g.mg (fun x hx => ?_) g, a.b.trans g.dd, e, m, fun x hx => ?_, by rw [em]; exact a.u⟩, k⟩
  · obtain ⟨q, hq, e1⟩ := List.mem_map.mp hx
    rw [← e1]; exact a.n q hq
  · have : x.1 ∈ M'.map (·.1) := List.mem_map.mpr ⟨x, hx, rfl⟩
    rw [em] at this
    obtain ⟨q, hq, e1⟩ := List.mem_map.mp this
    rw [← e1]; exact a.n q hq
/-- return y, y a mutable list: it is data from now on -/
theorem dx_retM {y : Str} {p : Pos} {a : Addr} {ds : List PyData} (hm : (a, MO.l ds) ∈ M) (hy : ρ[nix F.X.N y]? = some (.rf a)) (hi : F.X.N[nix F.X.N y]? = some y) (hv : Vis F.X.env.scope y) (hd : (y == ("__debug__" : Str)) = false := by decide) (hcd : (y == ("__classdict__" : Str)) = false := by decide) :
    DX F M ρ (.Return (some (.Name y p)) pos :: rest) (.ret (.list ds)) := dx_step (ps_ret (pe_var hi hv hd hcd)) fun D σ H ⟨H0, Hd0, Hb, Hd, a0, k⟩ => by
  refine ⟨_, EnvD.rf a0.e hy, ?_⟩
  obtain ⟨⟨vs, e1, da⟩, e2⟩ := a0.m _ hm
  have n0 := a0.n _ hm
  refine k _ H (L2.upd Hd a (.lst vs)) ⟨a0.g.hh, a0.g.dd.trans (Same.upd e2), fun b u e => ?_, fun b h1 h2 => ?_⟩ (.lst (.inl (.inl upd_same)) (da.mono (Same.upd e2)))
  · by_cases hb : b = a
    · subst hb; rw [upd_same] at e; cases e; exact e1
    · rw [upd_ne hb] at e; exact a0.g.dh _ _ e
  · have hb : b ≠ a := fun z => h1 (by rw [z]; exact n0)
    rw [upd_ne hb]; exact a0.g.fr b h1 h2
end
end Dv
namespace Dv
open PySem L2 PyProof.Rows
/-! ### one mutable exchanged for another -/
inductive Put : Mt → Addr → MO → MO → Mt → Prop
  | here {M : Mt} {p : Addr} {m m' : MO} : Put ((p, m) :: M) p m m' ((p, m') :: M)
  | there {M M' : Mt} {p : Addr} {m m' : MO} {e : Addr × MO} : Put M p m m' M' → Put (e :: M) p m m' (e :: M')
theorem Put.mem {M M' : Mt} {p : Addr} {m m' : MO} (h : Put M p m m' M') : (p, m) ∈ M := by
  induction h with
  | here => exact List.mem_cons_self
  | there _ ih => exact List.mem_cons_of_mem _ ih
theorem Put.adr {M M' : Mt} {p : Addr} {m m' : MO} (h : Put M p m m' M') : M'.map (·.1) = M.map (·.1) := by
  induction h with
  | here => rfl
  | there _ ih => rw [List.map_cons, List.map_cons, ih]
theorem Put.ok {K : PySem.W.Frag} {M M' : Mt} {p : Addr} {m m' : MO} (h : Put M p m m' M') {H Hd H' : Hp} (nd : (M.map (·.1)).Nodup) (ok : MtOk K M H Hd) (off : ∀ a o, a ≠ p → H a = some o → H' a = some o) (hm : MOk K H' Hd p m') : MtOk K M' H' Hd := by
  revert hm off
  induction h with
  | here =>
    intro off hm e he
    rcases List.mem_cons.mp he with q | q
    · subst q; exact ⟨hm, (ok _ List.mem_cons_self).2⟩
    · have k := ok e (List.mem_cons_of_mem _ q)
      refine ⟨k.1.mono (fun o z => off _ o (fun w => ?_) z) (Same.refl _), k.2⟩
      exact (List.nodup_cons.mp nd).1 (List.mem_map.mpr ⟨e, q, w⟩)
  | @there M M' p m m' e0 h0 ih =>
    intro off hm e he
    rcases List.mem_cons.mp he with q | q
    · subst q
      have k := ok _ List.mem_cons_self
      refine ⟨k.1.mono (fun o z => off _ o (fun w => ?_) z) (Same.refl _), k.2⟩
      exact (List.nodup_cons.mp nd).1 (List.mem_map.mpr ⟨_, h0.mem, w.symm⟩)
    · exact ih (List.nodup_cons.mp nd).2 (fun e z => ok e (List.mem_cons_of_mem _ z)) off hm e q
theorem Mg.refl {A : List Addr} {H Hd : Hp} (s : Same Hd H) : Mg A H Hd H Hd := .of (.refl s)
theorem Mg.trans {A : List Addr} {H Hd H1 Hd1 H2 Hd2 : Hp} (a : Mg A H Hd H1 Hd1) (b : Mg A H1 Hd1 H2 Hd2) (live : ∀ x, H x ≠ none → H1 x ≠ none) : Mg A H Hd H2 Hd2 :=
  ⟨fun x o n e => b.hh x o n (a.hh x o n e), a.dd.trans b.dd, b.dh, fun x h1 h2 => b.fr x (live x h1) (a.fr x h1 h2)⟩
theorem Mg.upd {A : List Addr} {H Hd : Hp} {p : Addr} {o : HO} (s : Same Hd H) (hp : p ∈ A) (hn : Hd p = none) : Mg A H Hd (L2.upd H p o) Hd :=
  ⟨fun a u n e => by rw [upd_ne (fun z => n (by rw [z]; exact hp))]; exact e, Same.refl _, fun b u e => by
    have hb : b ≠ p := fun z => by rw [z, hn] at e; cases e
    rw [upd_ne hb]; exact s _ _ e, fun _ _ h => h⟩
theorem upd_live {H : Hp} {p : Addr} {o : HO} (x : Addr) (h : H x ≠ none) : L2.upd H p o x ≠ none := by
  by_cases e : x = p
  · subst e; rw [upd_same]; exact fun z => nomatch z
  · rw [upd_ne e]; exact h
theorem DtA.setAt {K : PySem.W.Frag} {H : Hp} {vs : List V} {ds : List PyData} (h : DtA K H vs ds) {v : V} {d : PyData} (g : Dt K H v d) (j : Nat) : DtA K H (vs.set j v) (ds.set j d) := by
  induction vs generalizing ds j with
  | nil => cases h; exact .nil
  | cons w r ih =>
    cases h with
    | cons a b =>
      cases j with
      | zero => exact .cons g b
      | succ j => exact .cons a (ih b j)
section
variable {F : Fr} {M M' : Mt} {ρ ρ' : List Sl} {pos : Pos} {c e a : Expr} {rest A B : List Stmt} {o : XOut} {d : PyData}
/-! ### reading a mutable list -/
theorem pe_nmR {y : Str} {p : Pos} {q : Addr} (hy : ρ[nix F.X.N y]? = some (.rf q)) (hi : F.X.N[nix F.X.N y]? = some y) (hv : Vis F.X.env.scope y) (hd : (y == ("__debug__" : Str)) = false := by decide) (hcd : (y == ("__classdict__" : Str)) = false := by decide) :
    PE F.X (.Name y p) (fun σ H Q => (∃ Hd, EnvD F.X.K Hd σ ρ) ∧ Q (.ref q) H) := pe_imp (pe_var hi hv hd hcd) fun σ H Q ⟨⟨Hd, e⟩, k⟩ => ⟨.ref q, EnvD.rf e hy, k⟩
theorem de_ixM {y : Str} {p : Pos} {q : Addr} {ds : List PyData} {i : Int} (hm : (q, MO.l ds) ∈ M) (hy : ρ[nix F.X.N y]? = some (.rf q)) (hi : F.X.N[nix F.X.N y]? = some y) (hv : Vis F.X.env.scope y) (hx : DE (F.mt M) ρ a (.ok (.int i))) (h : atI ds i = some d)
    (hd : (y == ("__debug__" : Str)) = false := by decide) (hcd : (y == ("__classdict__" : Str)) = false := by decide) (hs : PlainIx a := by intro _ _; rfl) : DE (F.mt M) ρ (.Subscript (.Name y p) a pos) (.ok d) :=
  ⟨pe_imp (pe_ix ix_list (pe_nmR hy hi hv hd hcd) hx.pe hs) fun σ H Q ⟨Hd, at0, k⟩ => ⟨⟨Hd, at0.e⟩, tE_ok at0 fun u H1 Hd1 g1 d1 => by
    cases d1
    obtain ⟨⟨vs, e1, da⟩, _⟩ := (at0.go g1).p _ hm
    obtain ⟨v, e, dv⟩ := atI_dt da h
    exact ⟨q, vs, i, v, rfl, rfl, .inl (.inl e1), e, k _ H1 Hd1 g1 dv⟩⟩⟩
theorem de_joinX {y : Str} {p apos : Pos} {q : Addr} {b : Expr} {z : Str} {ys : List Str} (hm : (q, MO.l (ys.map .str)) ∈ M) (hy : ρ[nix F.X.N y]? = some (.rf q)) (hi : F.X.N[nix F.X.N y]? = some y) (hv : Vis F.X.env.scope y) (ho : DE (F.mt M) ρ b (.ok (.str z))) (hz : (ys.map (·.length)).sum + ys.length * z.length ≤ 16777216)
    (hd : (y == ("__debug__" : Str)) = false := by decide) (hcd : (y == ("__classdict__" : Str)) = false := by decide) (hs : starEach [.Name y p] F.X.env = [(false, eval (.Name y p) F.X.env)] := by rfl)
    (hbase : attributeBase b "join" F.X.env (eval b F.X.env) = eval b F.X.env := by rfl) (hline : (apos.endLine == pos.line) = true := by rfl) : DE (F.mt M) ρ (.Call (.Attribute b "join" apos) [.Name y p] [] pos) (.ok (.str (Txt.join z ys))) :=
  ⟨pe_imp (pe_join ho.pe (pe_nmR hy hi hv hd hcd) hs hbase hline) fun σ H Q ⟨Hd, at0, k⟩ => tE_ok at0 fun x H1 Hd1 g1 dx => by
    cases dx
    have a1 := at0.go g1
    obtain ⟨⟨vs, e1, da⟩, _⟩ := a1.p _ hm
    have e := da.ofStrs
    subst e
    exact ⟨⟨z, rfl⟩, ⟨Hd1, a1.e⟩, z, q, ys, rfl, rfl, .inl (.inl (.inl e1)), hz, k _ H1 Hd1 g1 (.str _)⟩⟩
/-! ### storing into one -/
def PGX (F : Fr) (M : Mt) (ρ : List Sl) (tg : Expr) (d : PyData) (M' : Mt) : Prop := M'.map (·.1) = M.map (·.1) ∧ ∃ g, PG F.X tg g ∧ ∀ v σ H Hd Q, (M.map (·.1)).Nodup → At F.X.K (F.mt M).o ρ σ H Hd → Dt F.X.K Hd v d → (∀ H' Hd', Mg (M.map (·.1)) H Hd H' Hd' → (∀ x, H x ≠ none → H' x ≠ none) → EnvD F.X.K Hd' σ ρ → MtOk F.X.K M' H' Hd' → Q σ H') → g v σ H Q
theorem pgx_item {y : Str} {p : Pos} {q : Addr} {ds : List PyData} {i : Int} {j : Nat} (hp : Put M q (.l ds) (.l (ds.set j d)) M') (hy : ρ[nix F.X.N y]? = some (.rf q)) (hi : F.X.N[nix F.X.N y]? = some y) (hv : Vis F.X.env.scope y) (hx : DE (F.mt M) ρ a (.ok (.int i))) (h : ixN ds.length i = some j)
    (hd : (y == ("__debug__" : Str)) = false := by decide) (hcd : (y == ("__classdict__" : Str)) = false := by decide)
    (ha : ∀ v, assign (.Subscript (.Name y p) a pos) F.X.env v = (do
      let ov ← holding [v] (eval (.Name y p) F.X.env)
      let iv ← holding [v, ov] (eval a F.X.env)
      standAt pos
      holding [v, ov, iv] (setItem ov iv v)
      release [v, ov, iv] []) := by intro _; rfl) : PGX F M ρ (.Subscript (.Name y p) a pos) d M' := by
  refine ⟨hp.adr, _, pg_sub (pe_nmR hy hi hv hd hcd) hx.pe set_list ha, fun v σ H Hd Q nd at0 dv k => ?_⟩
  refine ⟨⟨Hd, at0.e⟩, tE_ok at0 fun u H1 Hd1 g1 d1 => ?_⟩
  cases d1
  have a1 := at0.go g1
  have hq := a1.p _ hp.mem
  obtain ⟨⟨vs, e1, da⟩, e2⟩ := hq
  refine ⟨q, vs, i, j, rfl, rfl, e1, by rw [da.len]; exact h, ?_⟩
  have hmem : q ∈ M.map (·.1) := List.mem_map.mpr ⟨_, hp.mem, rfl⟩
  refine k _ Hd1 ((Mg.of g1).trans (.upd a1.s hmem e2) (fun x hx => Same.ne g1.hh hx)) (fun x hx => upd_live x (Same.ne g1.hh hx)) a1.e (hp.ok nd a1.p (fun a o n e => by rw [upd_ne n]; exact e) ⟨_, upd_same, da.setAt (dv.mono g1.dd) j⟩)
/-- y[i] = e -/
theorem dx_set {tg : Expr} (nd : (M.map (·.1)).Nodup ∨ True) (h : DE (F.mt M) ρ e (.ok d)) (hg : PGX F M ρ tg d M') (r : DX F M' ρ rest o) (hs : swapsWithSole [tg] e pos.line F.X.env = pure false := by rfl) (hw : swappedStores [tg] e F.X.env = pure none := by rfl) (h1 : (assignEach [tg] F.X.env).map (·.2) = [assign tg F.X.env] := by rfl) :
    DX F M ρ (.Assign [tg] e pos :: rest) o := by
  obtain ⟨em, g, pg, i⟩ := hg
  refine dx_step (ps_asg h.pe pg hs hw h1) fun D σ H ⟨H0, Hd0, Hb, Hd, a0, k⟩ => tE_ok (a0.at rfl) fun v H1 Hd1 g1 dv => ?_
  have a1 := a0.go g1 (a0.e.mono g1.dd)
  refine i v σ H1 Hd1 _ a1.u (a1.at rfl) dv fun H' Hd' mg _ e m => ⟨_, r.pb, H0, Hd0, Hb, Hd', ⟨a1.g.mg (fun x hx => ?_) mg, a1.b.trans mg.dd, e, m, fun x hx => ?_, by rw [em]; exact a1.u⟩, k⟩
  · obtain ⟨q, hq, e1⟩ := List.mem_map.mp hx
    rw [← e1]; exact a1.n q hq
  · have : x.1 ∈ M'.map (·.1) := List.mem_map.mpr ⟨x, hx, rfl⟩
    rw [em] at this
    obtain ⟨q, hq, e1⟩ := List.mem_map.mp this
    rw [← e1]; exact a1.n q hq
/-- t1, t2 = .. -/
theorem pgx_two {t1 t2 : Expr} {d1 d2 : PyData} {M1 : Mt} {k : Nat} (h1 : PGX F M ρ t1 d1 M1) (h2 : PGX F M1 ρ t2 d2 M') (hc : F.X.calm = true := by rfl) (hn : (assignEach [t1, t2] F.X.env).length = 2 := by rfl) (hst : (assignEach [t1, t2] F.X.env).findIdx? (·.1) = none := by rfl)
    (e1 : (assignEach [t1, t2] F.X.env).map (·.2) = assign t1 F.X.env :: (assignEach [t2] F.X.env).map (·.2) := by rfl) (e2 : (assignEach [t2] F.X.env).map (·.2) = assign t2 F.X.env :: (assignEach [] F.X.env).map (·.2) := by rfl) : PGX F M ρ (.Tuple [t1, t2] k pos) (.tuple [d1, d2]) M' := by
  obtain ⟨em1, g1, p1, i1⟩ := h1
  obtain ⟨em2, g2, p2, i2⟩ := h2
  refine ⟨em2.trans em1, _, pg_tup (n := 2) hc (pgs_cons p1 (pgs_cons p2 pgs_nil e2) e1) hn hst, fun v σ H Hd Q nd at0 dv kk => ?_⟩
  cases dv with
  | @tup p xs ds r da =>
    cases da with
    | @cons v1 vs _ _ q1 da1 =>
      cases da1 with
      | @cons v2 vs2 _ _ q2 da2 =>
        cases da2
        refine ⟨p, [v1, v2], rfl, .inl (Rd.mono r at0.s), rfl, v1, [v2], rfl, i1 v1 σ H Hd _ nd at0 q1 fun H1 Hd1 m1 l1 e1 k1 => ⟨v2, [], rfl, i2 v2 σ H1 Hd1 _ (by rw [em1]; exact nd) ⟨m1.dh, e1, k1⟩ (q2.mono m1.dd) fun H2 Hd2 m2 l2 e2 k2 => ⟨rfl, kk H2 Hd2 ?_ (fun x hx => l2 x (l1 x hx)) e2 k2⟩⟩⟩
        rw [em1] at m2
        exact m1.trans m2 l1
theorem ne_split {b f : Expr} {apos : Pos} {z y : Str} {ps : List Str} (ho : DE (F.mt M) ρ b (.ok (.str z))) (he : DE (F.mt M) ρ f (.ok (.str y))) (hy : (y.length == 0) = false) (hz : z.length + 2 ≤ sizeLine) (hp : Txt.split z y = ps) (hs : starEach [f] F.X.env = [(false, eval f F.X.env)] := by rfl)
    (hbase : attributeBase b "split" F.X.env (eval b F.X.env) = eval b F.X.env := by rfl) (hline : (apos.endLine == pos.line) = true := by rfl) : NewE F M ρ (.Call (.Attribute b "split" apos) [f] [] pos) (.l (ps.map .str)) :=
  ⟨_, pe_split ho.pe he.pe hs hbase hline, fun σ H Hd Q a k => tE_ok a fun x H1 Hd1 g1 dx => by
    cases dx
    refine ⟨⟨z, rfl⟩, tE_ok (a.go g1) fun y' H2 Hd2 g2 dy => ?_⟩
    cases dy
    refine ⟨z, y, rfl, rfl, hy, hz, fun p hp' => ?_⟩
    rw [hp]
    exact k H2 Hd2 p _ (g1.trans g2) hp' ⟨_, upd_same, DtA.strs ps⟩⟩
end
end Dv
namespace Dv
open PySem L2 PyProof.Rows
/-! ### texts by size -/
def tx (n : Nat) (z : Str) : Prop := z.length ≤ n ∧ PyData.strOk z = true
theorem tx_up {n m : Nat} {z : Str} (h : tx n z) (q : n ≤ m) : tx m z := ⟨Nat.le_trans h.1 q, h.2⟩
theorem tx_cut {n : Nat} {z : Str} {l u : Option Int} (h : tx n z) : tx n (cutS z l u) := ⟨Nat.le_trans (cutS_length z l u) h.1, (strOk_iff _).mpr fun c hc => by
  unfold cutS at hc
  exact (strOk_iff z).mp h.2 c (List.mem_of_mem_drop (List.mem_of_mem_take (by simpa using hc)))⟩
theorem tx_app {n m : Nat} {a b : Str} (h : tx n a) (g : tx m b) : tx (n + m) (a ++ b) := ⟨by rw [len_app]; exact Nat.add_le_add h.1 g.1, strOk_app h.2 g.2⟩
theorem tx_leaf {n : Nat} {z : Str} (h : tx n z) (q : n ≤ 1000) : leafOk (.str z) := ⟨Nat.le_trans h.1 q, h.2⟩
theorem tx_len {n m : Nat} {a b : Str} (h : tx n a) (g : tx m b) (q : n + m ≤ 1000) : a.length + b.length ≤ sizeLine := Nat.le_trans (Nat.le_trans (Nat.add_le_add h.1 g.1) q) (Nat.le_of_ble_eq_true rfl)
theorem tx_line {n : Nat} {a : Str} (h : tx n a) (q : n ≤ 1000) : a.length ≤ sizeLine := Nat.le_trans (Nat.le_trans h.1 q) (Nat.le_of_ble_eq_true rfl)
theorem tx_split {n : Nat} {z : Str} (h : tx n z) : ∀ p ∈ Txt.split z " ", tx n p := by
  intro p hp
  have e := TL.split_spl z (" " : Str) (by decide +kernel) (TL.kind_ok (by decide +kernel))
  have hm : TL.tl p ∈ TL.spl (TL.tl (" " : Str)) 0 [] (TL.tl z) := by
    rw [← e]
    exact List.mem_map.mpr ⟨p, hp, rfl⟩
  obtain ⟨q1, q2⟩ := spl_in (Pc := fun c => c < 0x110000) _ _ _ (fun x z => absurd z (by simp)) ((strOk_iff z).mp h.2) _ hm
  refine ⟨?_, (strOk_iff p).mpr q1⟩
  have h1 := h.1
  rw [TL.len_tl] at h1 ⊢
  rw [List.length_nil] at q2
  have e3 : z.cps.toList.length = (TL.tl z).length := rfl
  omega
theorem joinL_in {S : List Nat} {Pc : Nat → Prop} (hS : ∀ c ∈ S, Pc c) : ∀ ps : List (List Nat), (∀ p ∈ ps, ∀ c ∈ p, Pc c) → (∀ c ∈ TL.joinL S ps, Pc c) ∧ (TL.joinL S ps).length ≤ (ps.map (·.length)).sum + ps.length * S.length
  | [], _ => ⟨(fun c hc => absurd (show c ∈ ([] : List Nat) from hc) (by simp)), Nat.zero_le _⟩
  | [p], h => ⟨h p List.mem_cons_self, by simp [TL.joinL]⟩
  | p :: q :: r, h => by
    obtain ⟨i1, i2⟩ := joinL_in hS (q :: r) fun z hz => h z (List.mem_cons_of_mem _ hz)
    refine ⟨fun c hc => ?_, ?_⟩
    · have hc' : c ∈ p ++ (S ++ TL.joinL S (q :: r)) := hc
      rcases List.mem_append.mp hc' with z | z
      · exact h p List.mem_cons_self c z
      · rcases List.mem_append.mp z with z | z
        · exact hS c z
        · exact i1 c z
    · show (p ++ (S ++ TL.joinL S (q :: r))).length ≤ _
      rw [List.length_append, List.length_append, List.map_cons, List.sum_cons, List.length_cons, Nat.add_mul]
      omega
theorem sum_tx {n : Nat} : ∀ {ys : List Str}, (∀ p ∈ ys, tx n p) → (ys.map (·.length)).sum ≤ ys.length * n
  | [], _ => Nat.zero_le _
  | y :: r, h => by
    have h1 := (h y List.mem_cons_self).1
    have h2 := sum_tx (ys := r) fun z hz => h z (List.mem_cons_of_mem _ hz)
    rw [List.map_cons, List.sum_cons, List.length_cons, Nat.add_mul]
    omega
theorem tx_join {n : Nat} {ys : List Str} (h : ∀ p ∈ ys, tx n p) : tx (ys.length * n + ys.length) (Txt.join " " ys) := by
  obtain ⟨i1, i2⟩ := joinL_in (S := TL.tl (" " : Str)) (Pc := fun c => c < 0x110000) (by decide +kernel) (ys.map TL.tl) fun p hp c hc => by
    obtain ⟨y, hy, rfl⟩ := List.mem_map.mp hp
    exact (strOk_iff y).mp (h y hy).2 c hc
  have e : TL.tl (Txt.join " " ys) = TL.joinL (TL.tl (" " : Str)) (ys.map TL.tl) := (congrArg TL.tl (TL.join_eq (" " : Str) ys)).trans (TL.tl_join _ _)
  refine ⟨?_, (strOk_iff _).mpr fun c hc => i1 c (by rw [← e]; exact hc)⟩
  rw [TL.len_tl, e]
  have hs := sum_tx h
  have e2 : ((ys.map TL.tl).map (·.length)) = ys.map (·.length) := by
    rw [List.map_map]
    exact List.map_congr_left fun y _ => (TL.len_tl y).symm
  rw [e2, List.length_map, show (TL.tl (" " : Str)).length = 1 from by decide +kernel] at i2
  omega
theorem join_hz {n : Nat} {ys : List Str} (h : ∀ p ∈ ys, tx n p) (hn : n ≤ 1000) (hy : ys.length ≤ 20) : (ys.map (·.length)).sum + ys.length * (" " : Str).length ≤ 16777216 := by
  have hs := sum_tx h
  have : ys.length * n ≤ 20 * 1000 := Nat.mul_le_mul hy hn
  rw [show (" " : Str).length = 1 from by decide +kernel]
  omega
theorem leaf_join {n : Nat} {ys : List Str} (h : ∀ p ∈ ys, tx n p) (hn : n ≤ 50) (hy : ys.length ≤ 12) : leafOk (.str (Txt.join " " ys)) := by
  refine tx_leaf (tx_join h) ?_
  have : ys.length * n ≤ 12 * 50 := Nat.mul_le_mul hy hn
  omega
def cutL {α : Type} (ds : List α) (lo hi : Option Int) : List α := (ds.drop (HT.sIx ds.length 0 lo)).take (HT.sIx ds.length ds.length hi - HT.sIx ds.length 0 lo)
theorem cutD_map {α : Type} (f : α → PyData) (xs : List α) (l u : Option Int) : cutD (xs.map f) l u = (cutL xs l u).map f := by
  unfold cutD cutL
  rw [List.length_map, List.map_take, List.map_drop]
theorem cutL_len {α : Type} (ds : List α) (l u : Option Int) : (cutL ds l u).length ≤ ds.length := by
  unfold cutL
  rw [List.length_take, List.length_drop]
  omega
theorem cutL_mem {α : Type} {ds : List α} {l u : Option Int} {x : α} (h : x ∈ cutL ds l u) : x ∈ ds := List.mem_of_mem_drop (List.mem_of_mem_take h)
section
variable {F : Fr} {ρ : List Sl} {pos : Pos} {e o : Expr}
theorem de_joinCut {apos : Pos} {z : Str} {ps : List Str} {l u l' u' : Option Int} (ho : DE F ρ o (.ok (.str z))) (he : DE F ρ e (.ok (.list (cutD (ps.map .str) l u ++ cutD (ps.map .str) l' u')))) (hz : ((cutL ps l u ++ cutL ps l' u').map (·.length)).sum + (cutL ps l u ++ cutL ps l' u').length * z.length ≤ 16777216) (hs : starEach [e] F.X.env = [(false, eval e F.X.env)] := by rfl)
    (hbase : attributeBase o "join" F.X.env (eval o F.X.env) = eval o F.X.env := by rfl) (hline : (apos.endLine == pos.line) = true := by rfl) : DE F ρ (.Call (.Attribute o "join" apos) [e] [] pos) (.ok (.str (Txt.join z (cutL ps l u ++ cutL ps l' u')))) := by
  refine de_join ho ?_ hz hs hbase hline
  rw [List.map_append, ← cutD_map, ← cutD_map]
  exact he
end
end Dv
namespace Dv
open PySem L2 PyProof.Rows
/-! ### loops that change mutables -/
section
variable {F : Fr} {M M' : Mt} {ρ ρ' : List Sl} {pos : Pos} {c e a : Expr} {rest A B : List Stmt} {o : XOut} {d : PyData} {C : Addr} {x : Bool}
/-- the turns of a for; the mutables' addresses stay -/
inductive LpX (F : Fr) (b : PyData → List Sl → Option (List Sl)) (body : List Stmt) : List PyData → List Sl → Mt → XOut → Prop
  | nil {ρ : List Sl} {M : Mt} : LpX F b body [] ρ M (.nx ρ M)
  | next {it : PyData} {r : List PyData} {ρ ρt ρ1 ρ2 : List Sl} {M M1 : Mt} {o : XOut} : b it ρ = some ρt → DX F M ρt body (.nx ρ1 M1) → M1.map (·.1) = M.map (·.1) → Wk ρ1 ρ2 → LpX F b body r ρ2 M1 o → LpX F b body (it :: r) ρ M o
  | cont {it : PyData} {r : List PyData} {ρ ρt ρ1 ρ2 : List Sl} {M M1 : Mt} {o : XOut} : b it ρ = some ρt → DX F M ρt body (.ct ρ1 M1) → M1.map (·.1) = M.map (·.1) → Wk ρ1 ρ2 → LpX F b body r ρ2 M1 o → LpX F b body (it :: r) ρ M o
  | ret {it : PyData} {r : List PyData} {ρ ρt : List Sl} {M : Mt} {d : PyData} : b it ρ = some ρt → DX F M ρt body (.ret d) → LpX F b body (it :: r) ρ M (.ret d)
  | err {it : PyData} {r : List PyData} {ρ ρt : List Sl} {M : Mt} {C : Addr} : b it ρ = some ρt → DX F M ρt body (.er C) → LpX F b body (it :: r) ρ M (.er C)
theorem adr_n {M M1 : Mt} (h : M1.map (·.1) = M.map (·.1)) {H0 : Hp} (n : ∀ e ∈ M, H0 e.1 = none) : ∀ e ∈ M1, H0 e.1 = none := fun e he => by
  have : e.1 ∈ M1.map (·.1) := List.mem_map.mpr ⟨e, he, rfl⟩
  rw [h] at this
  obtain ⟨q, hq, e1⟩ := List.mem_map.mp this
  rw [← e1]; exact n q hq
/-- what a loop leaves: on with the rest, or as it ended -/
def XAft (F : Fr) (oa : XOut) (rest : List Stmt) (M : Mt) (o : XOut) : Prop := match oa with
  | .nx ρ' M' => M'.map (·.1) = M.map (·.1) ∧ DX F M' ρ' rest o
  | .ret d => o = .ret d
  | .er C => o = .er C
  | _ => False
theorem dx_for {tg : Expr} {ds : List PyData} {g : TG} {b : PyData → List Sl → Option (List Sl)} {vs : List Nat} {oa : XOut} (hi : DI (F.mt M) ρ tg e ds) (hg : PG F.X tg g) (ht : TgOk F.X.K g b vs) (hl : LpX F b A ds ρ M oa) (r : XAft F oa rest M o) (hc : F.X.calm = true := by rfl)
    (hs : ∀ x, foldedSetIterable e F.X.env x = pure x := by intro _; rfl) : DX F M ρ (.For tg e A [] pos :: rest) o := by
  obtain ⟨wi, pi, so⟩ := hi.ex
  refine dx_step (ps_for F.po hc pi hg pss_u hs) fun D σ H ⟨H0, Hd0, Hb, Hd, a, k⟩ => so σ H Hd _ (a.at rfl) fun J H1 Hd1 g1 hw => ?_
  refine walks_for (fun i σ2 H2 => ∃ ρi Mi Hd2, AtX F.X.K Mi ρi σ2 H0 Hd0 Hb H2 Hd2 ∧ Same Hd1 Hd2 ∧ Mi.map (·.1) = M.map (·.1) ∧ LpX F b A (ds.drop i) ρi Mi oa) ⟨ρ, M, Hd1, a.go g1 (a.e.mono g1.dd), Same.refl _, rfl, hl⟩ ?_ ?_ hw
  · rintro i σ2 H2 ⟨ρi, Mi, Hd2, a2, s2, em, l2⟩
    refine ⟨Hd2, s2, a2.g.dh, fun d hd v H3 Hd3 g3 dv => ?_⟩
    obtain ⟨hi, e⟩ := List.getElem?_eq_some_iff.mp hd
    have ed : ds.drop i = d :: ds.drop (i + 1) := by rw [List.drop_eq_getElem_cons hi, e]
    rw [ed] at l2
    have e3 := a2.e.mono g3.dd
    have mk : ∀ {σ' ρt} (e' : EnvD F.X.K Hd3 σ' ρt), AtX F.X.K Mi ρt σ' H0 Hd0 Hd3 H3 Hd3 := fun e' => ⟨a2.g.trans g3, Same.refl _, e', a2.m.go g3, a2.n, a2.u⟩
    cases l2 with
    | next eb hb ea hw hr =>
      refine ht d ρi _ eb v σ2 H3 Hd3 _ g3.dh e3 dv fun σ' e' _ => ⟨_, hb.pb, H0, Hd0, Hd3, Hd3, mk e', fun σ'' H4 Hd4 g4 s4 e4 m4 => ?_⟩
      exact ⟨_, _, Hd4, ⟨g4, (a2.b.trans g3.dd).trans s4, EnvD.wk e4 hw, m4, adr_n ea a2.n, by rw [ea]; exact a2.u⟩, (s2.trans g3.dd).trans s4, ea.trans em, hr⟩
    | cont eb hb ea hw hr =>
      refine ht d ρi _ eb v σ2 H3 Hd3 _ g3.dh e3 dv fun σ' e' _ => ⟨_, hb.pb, H0, Hd0, Hd3, Hd3, mk e', fun σ'' H4 Hd4 g4 s4 e4 m4 => ?_⟩
      exact ⟨_, _, Hd4, ⟨g4, (a2.b.trans g3.dd).trans s4, EnvD.wk e4 hw, m4, adr_n ea a2.n, by rw [ea]; exact a2.u⟩, (s2.trans g3.dd).trans s4, ea.trans em, hr⟩
    | ret eb hb =>
      cases (show o = .ret _ from r)
      exact ht d ρi _ eb v σ2 H3 Hd3 _ g3.dh e3 dv fun σ' e' _ => ⟨_, hb.pb, H0, Hd0, Hd3, Hd3, mk e', k⟩
    | err eb hb =>
      cases (show o = .er _ from r)
      exact ht d ρi _ eb v σ2 H3 Hd3 _ g3.dh e3 dv fun σ' e' _ => ⟨_, hb.pb, H0, Hd0, Hd3, Hd3, mk e', k⟩
  · rintro σ2 H2 ⟨ρi, Mi, Hd2, a2, s2, em, l2⟩
    rw [List.drop_length] at l2
    cases l2
    exact ⟨_, r.2.pb, H0, Hd0, Hb, Hd2, a2, k⟩
/-- while: n turns more -/
inductive WhX (F : Fr) (c : Expr) (body : List Stmt) : Nat → List Sl → Mt → List Sl → Mt → Prop
  | stop {ρ : List Sl} {M : Mt} : DT (F.mt M) ρ c false → WhX F c body 0 ρ M ρ M
  | turn {n : Nat} {ρ ρ1 ρ2 ρ' : List Sl} {M M1 M' : Mt} : DT (F.mt M) ρ c true → DX F M ρ body (.nx ρ1 M1) → M1.map (·.1) = M.map (·.1) → Wk ρ1 ρ2 → WhX F c body n ρ2 M1 ρ' M' → WhX F c body (n + 1) ρ M ρ' M'
theorem WhX.adr {n : Nat} (h : WhX F c A n ρ M ρ' M') : M'.map (·.1) = M.map (·.1) := by
  induction h with
  | stop _ => rfl
  | turn _ _ e _ _ ih => exact ih.trans e
theorem dx_while {n : Nat} (h : WhX F c A n ρ M ρ' M') (r : DX F M' ρ' rest o) : DX F M ρ (.While c A [] pos :: rest) o := by
  refine dx_step (ps_while F.po pt_u pss_u) fun D σ H ⟨H0, Hd0, Hb, Hd, a, k⟩ => ?_
  refine ⟨fun m σ2 H2 => ∃ ρi Mi Hd2, AtX F.X.K Mi ρi σ2 H0 Hd0 Hb H2 Hd2 ∧ WhX F c A m ρi Mi ρ' M', ⟨n, ρ, M, Hd, a, h⟩, ?_⟩
  rintro m σ2 H2 ⟨ρi, Mi, Hd2, a2, w⟩
  cases w with
  | stop hc =>
    refine ⟨_, hc.pt, Hd2, a2.at rfl, fun H3 Hd3 g3 => ?_⟩
    dsimp only
    rw [if_neg (fun z => nomatch z)]
    exact ⟨_, r.pb, H0, Hd0, Hb, Hd3, a2.go g3 (a2.e.mono g3.dd), k⟩
  | @turn m ρ ρ1 ρ2 ρ' M M1 M' hc hb ea hw hr =>
    refine ⟨_, hc.pt, Hd2, a2.at rfl, fun H3 Hd3 g3 => ?_⟩
    dsimp only
    rw [if_pos rfl]
    refine ⟨fun σ' H' => ∃ ρi Mi Hd2, AtX F.X.K Mi ρi σ' H0 Hd0 Hb H' Hd2 ∧ WhX F c A m ρi Mi ρ' M', fun σ' H' q => ⟨m, Nat.lt_succ_self _, q⟩, ?_⟩
    refine ⟨_, hb.pb, H0, Hd0, Hb, Hd3, a2.go g3 (a2.e.mono g3.dd), fun σ'' H4 Hd4 g4 s4 e4 m4 => ?_⟩
    exact ⟨_, _, Hd4, ⟨g4, s4, EnvD.wk e4 hw, m4, adr_n ea a2.n, by rw [ea]; exact a2.u⟩, hr⟩
end
end Dv
namespace Dv
open PySem L2 PyProof.Rows
theorem DtA.eraseAt {K : PySem.W.Frag} {H : Hp} {vs : List V} {ds : List PyData} (h : DtA K H vs ds) (j : Nat) : DtA K H (vs.eraseIdx j) (ds.eraseIdx j) := by
  induction vs generalizing ds j with
  | nil => cases h; exact .nil
  | cons w r ih =>
    cases h with
    | cons a b =>
      cases j with
      | zero => exact b
      | succ j => exact .cons a (ih b j)
/-! ### expressions that change mutables -/
section
variable {F : Fr} {M M1 M' : Mt} {ρ ρ' : List Sl} {pos : Pos} {c e a : Expr} {rest A B : List Stmt} {o : XOut} {d : PyData} {C : Addr} {x : Bool}
def MX (F : Fr) (M : Mt) (ρ : List Sl) (e : Expr) (d : PyData) (M' : Mt) : Prop := M'.map (·.1) = M.map (·.1) ∧ ∃ t, PE F.X e t ∧ ∀ σ H Hd Q, (M.map (·.1)).Nodup → At F.X.K (F.mt M).o ρ σ H Hd → (∀ v H' Hd', Mg (M.map (·.1)) H Hd H' Hd' → (∀ x, H x ≠ none → H' x ≠ none) → EnvD F.X.K Hd' σ ρ → MtOk F.X.K M' H' Hd' → Dt F.X.K Hd' v d → Q v H') → t σ H Q
theorem mx_pure (h : DE (F.mt M) ρ e (.ok d)) : MX F M ρ e d M := ⟨rfl, _, h.pe, fun σ H Hd Q nd a k => tE_ok a fun v H' Hd' g dv => k v H' Hd' (.of g) (fun x hx => Same.ne g.hh hx) (a.e.mono g.dd) ((show MtOk F.X.K M H Hd from a.p).go g) dv⟩
theorem dx_expr (h : MX F M ρ e d M') (r : DX F M' ρ rest o) (hs : swapsWith e none pos.line F.X.env = pure false := by rfl) : DX F M ρ (.Expr e pos :: rest) o := by
  obtain ⟨em, t, pe, i⟩ := h
  refine dx_step (ps_expr pe hs) fun D σ H ⟨H0, Hd0, Hb, Hd, a, k⟩ => i σ H Hd _ a.u (a.at rfl) fun v H' Hd' mg _ e m dv => ⟨_, r.pb, H0, Hd0, Hb, Hd', ⟨a.g.mg (fun x hx => ?_) mg, a.b.trans mg.dd, e, m, adr_n em a.n, by rw [em]; exact a.u⟩, k⟩
  obtain ⟨q, hq, e1⟩ := List.mem_map.mp hx
  rw [← e1]; exact a.n q hq
theorem dx_asgX {y : Str} {py : Pos} (h : MX F M ρ e d M') (r : DX F M' (ρ.set (nix F.X.N y) (.da d)) rest o) (hi : F.X.N[nix F.X.N y]? = some y) (hx : Loc F.X.env.scope y) (hf : F.X.fn y = true ∨ F.X.env.scope.names.lookup y = some .local := by first | exact .inl rfl | exact .inr rfl)
    (hs : swapsWithSole [.Name y py] e pos.line F.X.env = pure false := by rfl) (hw : swappedStores [.Name y py] e F.X.env = pure none := by rfl) (h1 : (assignEach [.Name y py] F.X.env).map (·.2) = [assign (.Name y py) F.X.env] := by rfl) : DX F M ρ (.Assign [.Name y py] e pos :: rest) o := by
  obtain ⟨em, t, pe, i⟩ := h
  refine dx_step (ps_asg pe (pg_name F.nd hi hx hf) hs hw h1) fun D σ H ⟨H0, Hd0, Hb, Hd, a, k⟩ => i σ H Hd _ a.u (a.at rfl) fun v H' Hd' mg _ e m dv => ⟨_, r.pb, H0, Hd0, Hb, Hd', ⟨a.g.mg (fun x hx => ?_) mg, a.b.trans mg.dd, EnvD.set _ e ⟨v, rfl, dv⟩, m, adr_n em a.n, by rw [em]; exact a.u⟩, k⟩
  obtain ⟨q, hq, e1⟩ := List.mem_map.mp hx
  rw [← e1]; exact a.n q hq
theorem At.mt {w : Ow} {σ : L2.St} {H Hd : Hp} {K : PySem.W.Frag} (s : Same Hd H) (e : EnvD K Hd σ ρ) (m : MtOk K M H Hd) (h : w.Ψ = fun H Hd => MtOk K M H Hd) : At K w ρ σ H Hd := ⟨s, e, by rw [h]; exact m⟩
/-- y.append(e) -/
theorem mx_app {y : Str} {p apos : Pos} {q : Addr} {ds0 ds : List PyData} (h0 : (q, MO.l ds0) ∈ M) (he : MX F M ρ e d M1) (hp : Put M1 q (.l ds) (.l (ds ++ [d])) M') (hz : ds.length < sizeLine) (hy : ρ[nix F.X.N y]? = some (.rf q)) (hi : F.X.N[nix F.X.N y]? = some y) (hv : Vis F.X.env.scope y)
    (hd : (y == ("__debug__" : Str)) = false := by decide) (hcd : (y == ("__classdict__" : Str)) = false := by decide) (hbase : attributeBase (.Name y p) "append" F.X.env (eval (.Name y p) F.X.env) = eval (.Name y p) F.X.env := by rfl)
    (hfew : ((backTo pos (starEach [e] F.X.env)).all (fun x => !x.1) && (backToKw pos (keywordEach [] F.X.env)).all (fun x => x.1.isSome) && decide (([e] : List Expr).length + ([] : List Keyword).length + (if ([] : List Keyword).isEmpty then 0 else 1) < 30)) = true := by rfl)
    (hline : (apos.endLine == pos.line) = true := by rfl) (hs : starEach [e] F.X.env = (false, eval e F.X.env) :: starEach [] F.X.env := by rfl) (hplain : (backTo pos (starEach [] F.X.env)).any (·.1) = false := by rfl) : MX F M ρ (.Call (.Attribute (.Name y p) "append" apos) [e] [] pos) .none M' := by
  obtain ⟨em, t, pe, i⟩ := he
  refine ⟨hp.adr.trans em, _, pe_bm PySem.F.plainAttrs_list PySem.F.slot_list_append PySem.F.type_list_append mt_append (pe_nmR hy hi hv hd hcd) (pa_cons pe pa_nil hs) hbase hfew hline hs hplain, fun σ H Hd Q nd a k => ?_⟩
  obtain ⟨⟨vs0, e0, _⟩, _⟩ := (show MtOk F.X.K M H Hd from a.p) _ h0
  refine ⟨⟨Hd, a.e⟩, .inl ⟨rfl, vs0, .inl (.inl e0)⟩, i σ H Hd _ nd a fun v H1 Hd1 mg lv ev m1 dv => ?_⟩
  obtain ⟨⟨vs, e1, da⟩, e2⟩ := m1 _ hp.mem
  refine ⟨q, vs, v, rfl, rfl, e1, by rw [da.len]; exact hz, ?_⟩
  have hmem : q ∈ M.map (·.1) := by rw [← em]; exact List.mem_map.mpr ⟨_, hp.mem, rfl⟩
  refine k _ _ Hd1 (mg.trans (.upd mg.dh hmem e2) lv) (fun x hx => upd_live x (lv x hx)) ev (hp.ok (by rw [em]; exact nd) m1 (fun a o n e => by rw [upd_ne n]; exact e) ⟨_, upd_same, da.snoc dv⟩) .non
/-- y.pop(i) -/
theorem mx_pop {y : Str} {p apos : Pos} {q : Addr} {ds : List PyData} {i : Int} {j : Nat} (hp : Put M q (.l ds) (.l (ds.eraseIdx j)) M') (hx : DE (F.mt M) ρ e (.ok (.int i))) (h1 : -(2 ^ 63) ≤ i) (h2 : i < 2 ^ 63) (hj : seqIndex? i ds.length = some j) (hd' : ds[j]? = some d) (hy : ρ[nix F.X.N y]? = some (.rf q)) (hi : F.X.N[nix F.X.N y]? = some y) (hv : Vis F.X.env.scope y)
    (hd : (y == ("__debug__" : Str)) = false := by decide) (hcd : (y == ("__classdict__" : Str)) = false := by decide) (hbase : attributeBase (.Name y p) "pop" F.X.env (eval (.Name y p) F.X.env) = eval (.Name y p) F.X.env := by rfl)
    (hfew : ((backTo pos (starEach [e] F.X.env)).all (fun x => !x.1) && (backToKw pos (keywordEach [] F.X.env)).all (fun x => x.1.isSome) && decide (([e] : List Expr).length + ([] : List Keyword).length + (if ([] : List Keyword).isEmpty then 0 else 1) < 30)) = true := by rfl)
    (hline : (apos.endLine == pos.line) = true := by rfl) (hs : starEach [e] F.X.env = (false, eval e F.X.env) :: starEach [] F.X.env := by rfl) (hplain : (backTo pos (starEach [] F.X.env)).any (·.1) = false := by rfl) : MX F M ρ (.Call (.Attribute (.Name y p) "pop" apos) [e] [] pos) d M' := by
  refine ⟨hp.adr, _, pe_bm PySem.F.plainAttrs_list PySem.F.slot_list_pop PySem.F.type_list_pop mt_popAt (pe_nmR hy hi hv hd hcd) (pa_cons hx.pe pa_nil hs) hbase hfew hline hs hplain, fun σ H Hd Q nd a k => ?_⟩
  have m0 : MtOk F.X.K M H Hd := a.p
  obtain ⟨⟨vs0, e0, _⟩, _⟩ := m0 _ hp.mem
  refine ⟨⟨Hd, a.e⟩, .inl ⟨rfl, vs0, .inl (.inl e0)⟩, tE_ok a fun u H1 Hd1 g1 d1 => ?_⟩
  cases d1
  have m1 := m0.go g1
  obtain ⟨⟨vs, e1, da⟩, e2⟩ := m1 _ hp.mem
  obtain ⟨v, ev, dv⟩ := da.get hd'
  refine ⟨q, vs, i, j, v, rfl, rfl, e1, h1, h2, by rw [da.len]; exact hj, ev, ?_⟩
  have hmem : q ∈ M.map (·.1) := List.mem_map.mpr ⟨_, hp.mem, rfl⟩
  refine k _ _ Hd1 ((Mg.of g1).trans (.upd g1.dh hmem e2) (fun x hx => Same.ne g1.hh hx)) (fun x hx => upd_live x (Same.ne g1.hh hx)) (a.e.mono g1.dd) (hp.ok nd m1 (fun a o n e => by rw [upd_ne n]; exact e) ⟨_, upd_same, da.eraseAt j⟩) dv
/-! ### reading -/
theorem de_lenM {y : Str} {p p2 : Pos} {q : Addr} {ds : List PyData} (hm : (q, MO.l ds) ∈ M) (hy : ρ[nix F.X.N y]? = some (.rf q)) (hi : F.X.N[nix F.X.N y]? = some y) (hv : Vis F.X.env.scope y) (hd : (y == ("__debug__" : Str)) = false := by decide) (hcd : (y == ("__classdict__" : Str)) = false := by decide)
    (hg : Gl F.X "len" := by rfl) (he : starEach [.Name y p] F.X.env = (false, eval (.Name y p) F.X.env) :: starEach [] F.X.env := by rfl) (hpl : (backTo pos (starEach [] F.X.env)).any (·.1) = false := by rfl) : DE (F.mt M) ρ (.Call (.Name "len" p2) [.Name y p] [] pos) (.ok (.int ds.length)) :=
  ⟨pe_imp (pe_callB call_len_seq hg F.bl.len PySem.boot_len (pa_cons (pe_nmR hy hi hv hd hcd) pa_nil he) (he := he) (hpl := hpl)) fun σ H Q ⟨Hd, a, k⟩ => by
    obtain ⟨⟨vs, e1, da⟩, _⟩ := (show MtOk F.X.K M H Hd from a.p) _ hm
    exact ⟨⟨Hd, a.e⟩, q, vs, rfl, .inl (.inl (.inl e1)), k _ H Hd (.refl a.s) (by rw [da.len]; exact .int _)⟩⟩
theorem de_lenMd {y : Str} {p p2 : Pos} {q : Addr} {kvs : List (Key × PyData)} (hm : (q, MO.d kvs) ∈ M) (hy : ρ[nix F.X.N y]? = some (.rf q)) (hi : F.X.N[nix F.X.N y]? = some y) (hv : Vis F.X.env.scope y) (hd : (y == ("__debug__" : Str)) = false := by decide) (hcd : (y == ("__classdict__" : Str)) = false := by decide)
    (hg : Gl F.X "len" := by rfl) (he : starEach [.Name y p] F.X.env = (false, eval (.Name y p) F.X.env) :: starEach [] F.X.env := by rfl) (hpl : (backTo pos (starEach [] F.X.env)).any (·.1) = false := by rfl) : DE (F.mt M) ρ (.Call (.Name "len" p2) [.Name y p] [] pos) (.ok (.int kvs.length)) :=
  ⟨pe_imp (pe_callB call_lenD hg F.bl.len PySem.boot_len (pa_cons (pe_nmR hy hi hv hd hcd) pa_nil he) (he := he) (hpl := hpl)) fun σ H Q ⟨Hd, a, k⟩ => by
    obtain ⟨⟨us, e1, ek, da⟩, _⟩ := (show MtOk F.X.K M H Hd from a.p) _ hm
    have el : us.length = kvs.length := by have := congrArg List.length ek; simpa using this
    exact ⟨⟨Hd, a.e⟩, q, us, rfl, e1, k _ H Hd (.refl a.s) (by rw [el]; exact .int _)⟩⟩
end
end Dv
namespace Dv
open PySem L2 PyProof.Rows
/-! ### mutable dicts -/
def valD (kvs : List (Key × PyData)) (k : Key) : Option PyData := (kvs.find? fun kv => decide (kv.1 = k)).map (·.2)
theorem valD_pos {p : Key × PyData} {r : List (Key × PyData)} {k : Key} (e : p.1 = k) : valD (p :: r) k = some p.2 := by simp [valD, List.find?_cons, e]
theorem valD_neg {p : Key × PyData} {r : List (Key × PyData)} {k : Key} (e : ¬ p.1 = k) : valD (p :: r) k = valD r k := by simp [valD, List.find?_cons, e]
theorem valV_map {us : List (Key × V)} {kvs : List (Key × PyData)} {K : PySem.W.Frag} {H : Hp} (k : Key) : us.map (·.1) = kvs.map (·.1) → DtA K H (us.map (·.2)) (kvs.map (·.2)) → (valV us k).isSome = (valD kvs k).isSome ∧ ∀ d, valD kvs k = some d → ∃ v, valV us k = some v ∧ Dt K H v d := by
  induction us generalizing kvs with
  | nil =>
    intro e _
    cases kvs with
    | nil => exact ⟨rfl, fun d h => by cases h⟩
    | cons _ _ => cases e
  | cons u r ih =>
    intro e h
    cases kvs with
    | nil => cases e
    | cons w t =>
      have e1 : u.1 = w.1 := (List.cons.inj e).1
      have e2 : r.map (·.1) = t.map (·.1) := (List.cons.inj e).2
      cases h with
      | cons hd ht =>
        by_cases q : u.1 = k
        · rw [valV_pos q, valD_pos (show w.1 = k from e1 ▸ q)]
          exact ⟨rfl, fun d h => by cases h; exact ⟨_, rfl, hd⟩⟩
        · rw [valV_neg q, valD_neg (show ¬ w.1 = k from e1 ▸ q)]
          exact ih e2 ht
theorem putK_map {us : List (Key × V)} {kvs : List (Key × PyData)} {K : PySem.W.Frag} {H : Hp} {k : Key} {v : V} {d : PyData} (e : us.map (·.1) = kvs.map (·.1)) (h : DtA K H (us.map (·.2)) (kvs.map (·.2))) (dv : Dt K H v d) (hn : valD kvs k = none) :
    putK us k v = us ++ [(k, v)] ∧ (us ++ [(k, v)]).map (·.1) = (kvs ++ [(k, d)]).map (·.1) ∧ DtA K H ((us ++ [(k, v)]).map (·.2)) ((kvs ++ [(k, d)]).map (·.2)) := by
  have hs := (valV_map k e h).1
  rw [hn] at hs
  have hu : valV us k = none := by
    cases q : valV us k with
    | none => rfl
    | some w => rw [q] at hs; cases hs
  refine ⟨putK_new v hu, by simp [e], ?_⟩
  rw [List.map_append, List.map_append]
  exact h.append (.cons dv .nil)
section
variable {F : Fr} {M M1 M' : Mt} {ρ ρ' : List Sl} {pos : Pos} {c e a : Expr} {rest A B : List Stmt} {o : XOut} {d : PyData}
theorem hu_le {A : Around} (h : A.units + 128 < cLine) : A.units + 1 < cLine := by omega
/-- e in y, e not in y: whole-number keys -/
theorem dt_inD {y : Str} {p : Pos} {q : Addr} {kvs : List (Key × PyData)} {i : Int} (hm : (q, MO.d kvs) ∈ M) (hx : DE (F.mt M) ρ e (.ok (.int i))) (hy : ρ[nix F.X.N y]? = some (.rf q)) (hi : F.X.N[nix F.X.N y]? = some y) (hv : Vis F.X.env.scope y) (hd : (y == ("__debug__" : Str)) = false := by decide) (hcd : (y == ("__classdict__" : Str)) = false := by decide)
    (h1 : behindInMarks .In (.Name y p) = false := by rfl) : DT (F.mt M) ρ (.Compare e [.In] [.Name y p] pos) (valD kvs (Sum.inl i : Key)).isSome :=
  ⟨pt_imp (pt_cmp (pc_din (hu_le (Fr.hu F)) hx.pe (pe_nmR hy hi hv hd hcd)) h1) fun σ H Q ⟨Hd, a0, k⟩ => tE_ok a0 fun u H1 Hd1 g1 d1 => by
    cases d1
    have a1 := a0.go g1
    obtain ⟨⟨us, e1, ek, da⟩, _⟩ := (show MtOk F.X.K M H1 Hd1 from a1.p) _ hm
    refine ⟨⟨Hd1, a1.e⟩, q, _, rfl, DGet.k (k := (Sum.inl i : Key)) e1, _, rfl, ?_⟩
    rw [(valV_map (Sum.inl i : Key) ek da).1]
    exact k H1 Hd1 g1⟩
theorem dt_ninD {y : Str} {p : Pos} {q : Addr} {kvs : List (Key × PyData)} {i : Int} (hm : (q, MO.d kvs) ∈ M) (hx : DE (F.mt M) ρ e (.ok (.int i))) (hy : ρ[nix F.X.N y]? = some (.rf q)) (hi : F.X.N[nix F.X.N y]? = some y) (hv : Vis F.X.env.scope y) (hd : (y == ("__debug__" : Str)) = false := by decide) (hcd : (y == ("__classdict__" : Str)) = false := by decide)
    (h1 : behindInMarks .NotIn (.Name y p) = false := by rfl) : DT (F.mt M) ρ (.Compare e [.NotIn] [.Name y p] pos) (!(valD kvs (Sum.inl i : Key)).isSome) :=
  ⟨pt_imp (pt_cmp (pc_dnotin (hu_le (Fr.hu F)) hx.pe (pe_nmR hy hi hv hd hcd)) h1) fun σ H Q ⟨Hd, a0, k⟩ => tE_ok a0 fun u H1 Hd1 g1 d1 => by
    cases d1
    have a1 := a0.go g1
    obtain ⟨⟨us, e1, ek, da⟩, _⟩ := (show MtOk F.X.K M H1 Hd1 from a1.p) _ hm
    refine ⟨⟨Hd1, a1.e⟩, q, _, rfl, DGet.k (k := (Sum.inl i : Key)) e1, _, rfl, ?_⟩
    rw [(valV_map (Sum.inl i : Key) ek da).1]
    exact k H1 Hd1 g1⟩
/-- y[e] -/
theorem de_getD {y : Str} {p : Pos} {q : Addr} {kvs : List (Key × PyData)} {i : Int} (hm : (q, MO.d kvs) ∈ M) (hx : DE (F.mt M) ρ e (.ok (.int i))) (hg : valD kvs (Sum.inl i : Key) = some d) (hy : ρ[nix F.X.N y]? = some (.rf q)) (hi : F.X.N[nix F.X.N y]? = some y) (hv : Vis F.X.env.scope y) (hd : (y == ("__debug__" : Str)) = false := by decide) (hcd : (y == ("__classdict__" : Str)) = false := by decide)
    (hs : NoSl e := by intro _ _; rfl) : DE (F.mt M) ρ (.Subscript (.Name y p) e pos) (.ok d) :=
  ⟨pe_imp (pe_dget (hu_le (Fr.hu F)) (pe_nmR hy hi hv hd hcd) hx.pe hs) fun σ H Q ⟨Hd, a0, k⟩ => ⟨⟨Hd, a0.e⟩, tE_ok a0 fun u H1 Hd1 g1 d1 => by
    cases d1
    have a1 := a0.go g1
    obtain ⟨⟨us, e1, ek, da⟩, _⟩ := (show MtOk F.X.K M H1 Hd1 from a1.p) _ hm
    obtain ⟨v, ev, dv⟩ := (valV_map (Sum.inl i : Key) ek da).2 d hg
    exact ⟨q, v, rfl, by have := DGet.k (k := (Sum.inl i : Key)) e1; rw [ev] at this; exact this, k v H1 Hd1 g1 dv⟩⟩⟩
/-- y[e] = d, a key that is new -/
theorem dx_putD {y : Str} {p tp : Pos} {q : Addr} {kvs : List (Key × PyData)} {i : Int} (hp : Put M q (.d kvs) (.d (kvs ++ [((Sum.inl i : Key), d)])) M') (hv0 : DE (F.mt M) ρ a (.ok d)) (hx : DE (F.mt M) ρ e (.ok (.int i))) (hn : valD kvs (Sum.inl i : Key) = none) (hl : kvs.length < sizeLine) (r : DX F M' ρ rest o)
    (hy : ρ[nix F.X.N y]? = some (.rf q)) (hi : F.X.N[nix F.X.N y]? = some y) (hv : Vis F.X.env.scope y) (hd : (y == ("__debug__" : Str)) = false := by decide) (hcd : (y == ("__classdict__" : Str)) = false := by decide) (hs : swapsWith a (some (.Subscript (.Name y p) e tp)) pos.line F.X.env = pure false := by rfl) :
    DX F M ρ (.Assign [.Subscript (.Name y p) e tp] a pos :: rest) o := by
  refine dx_step (ps_dput (hu_le (Fr.hu F)) (pe_nmR hy hi hv hd hcd) hx.pe hv0.pe hs) fun D σ H ⟨H0, Hd0, Hb, Hd, a0, k⟩ => tE_ok (a0.at rfl) fun v H1 Hd1 g1 dv => ?_
  have a1 := a0.go g1 (a0.e.mono g1.dd)
  refine ⟨⟨Hd1, a1.e⟩, tE_ok (a1.at rfl) fun u H2 Hd2 g2 d2 => ?_⟩
  cases d2
  have a2 := a1.go g2 (a1.e.mono g2.dd)
  obtain ⟨⟨us, e1, ek, da⟩, e2⟩ := a2.m _ hp.mem
  have el : us.length = kvs.length := by have := congrArg List.length ek; simpa using this
  obtain ⟨p1, p2, p3⟩ := putK_map (k := (Sum.inl i : Key)) ek da (dv.mono g2.dd) hn
  refine ⟨q, _, rfl, DPut.k (k := (Sum.inl i : Key)) e1 (by rw [el]; exact hl), ?_⟩
  rw [p1]
  have hmem : q ∈ M.map (·.1) := List.mem_map.mpr ⟨_, hp.mem, rfl⟩
  have mg : Mg (M.map (·.1)) H2 Hd2 (L2.upd H2 q (.dK (us ++ [((Sum.inl i : Key), v)]))) Hd2 := .upd a2.g.dh hmem e2
  refine ⟨_, r.pb, H0, Hd0, Hb, Hd2, ⟨a2.g.mg (fun x hx => ?_) mg, a2.b, a2.e, hp.ok a2.u a2.m (fun a o n e => by rw [upd_ne n]; exact e) ⟨_, upd_same, p2, p3⟩, adr_n hp.adr a2.n, by rw [hp.adr]; exact a2.u⟩, k⟩
  obtain ⟨w, hw, e1⟩ := List.mem_map.mp hx
  rw [← e1]; exact a2.n w hw
/-- list(range(n)), changed later -/
theorem ne_range {n : Int} {p p2 p3 : Pos} (hc : F.X.calm = true) (ha : DE (F.mt M) ρ a (.ok (.int n))) (hz : RgOk 0 n) (hg : Gl F.X "list" := by rfl) (hg2 : Gl F.X "range" := by rfl)
    (na : starEach [.Call (.Name "range" p2) [a] [] p3] F.X.env = (false, eval (.Call (.Name "range" p2) [a] [] p3) F.X.env) :: starEach [] F.X.env := by rfl) (nb : starEach [a] F.X.env = (false, eval a F.X.env) :: starEach [] F.X.env := by rfl) :
    NewE F M ρ (.Call (.Name "list" p) [.Call (.Name "range" p2) [a] [] p3] [] pos) (.l (rangeD 0 n)) :=
  ⟨_, pe_listRg hc hg F.bl.list (prg_1 hg2 F.bl.range ha.pe (na := nb)) (na := na), fun σ H Hd Q at0 k => tE_ok at0 fun v H1 Hd1 g1 d1 => by
    cases d1
    exact ⟨n, rfl, hz, fun q hq => k H1 Hd1 q _ g1 hq ⟨_, upd_same, rgV_dt 0 n⟩⟩⟩
end
end Dv
namespace Dv
open PySem L2 PyProof.Rows
/-! ### how many different ones -/
def distL (ns : List Int) : Nat := (firstMet (fun i => ns.getD i 0) ns.length).length
def tLenSetD (K : PySem.W.Frag) (ta : TE) : TE := fun σ H Q => ta σ H fun x H1 => ∃ (l : Addr) (ns : List Int), x = V.ref l ∧ SqL K H1 l (ns.map V.int) ∧ ns.length < 64 ∧ Q (.int (distL ns)) H1
theorem pe_lenSetD {X : Cx} {a : Expr} {ta : TE} {p p2 q pos : Pos} (hc : X.calm = true) (hg : Gl X "len") (hm : X.mg "len" = none) (hg2 : Gl X "set") (hm2 : X.mg "set" = none) (ha : PE X a ta) (na : starEach [a] X.env = (false, eval a X.env) :: starEach [] X.env) :
    PE X (.Call (.Name "len" p) [.Call (.Name "set" p2) [a] [] q] [] pos) (tLenSetD X.K ta) := by
  constructor
  intro pins s σ H Q I h
  refine Call_ (ld_blt I hg hm PySem.boot_len (PyProof.Rows.callWith_builtin1 (PyProof.Rows.args_cons (Call_ (ld_blt I hg2 hm2 PyProof.Rows.boot_set (PyProof.Rows.callWith_type1 (PyProof.Rows.args_cons (thn (ha.run pins s σ H _ I h) fun v s1 w => PyProof.Rows.args_nil ?_) na) na rfl))) rfl) rfl rfl))
  obtain ⟨y, H1, I1, r1, l, ns, e, hq, h1, q1⟩ := w
  subst e
  cases r1
  obtain ⟨its, r, pl, hz⟩ := I1.list hq
  have hl : its.toArray.size = ns.length := by rw [List.size_toArray, ← r.length, List.length_map]
  refine call_set_list (I1.ok.hd hc) pl.isList (ns := ns) (by simpa using r.ints) (by unfold scanBound; omega) fun h' tk hS hk => PyProof.Rows.args_nil ?_
  rw [hl] at hS
  obtain ⟨o, es, ep, t, ho, hex, hd, _, _, _, hf, hn⟩ := hS
  have hle := PyProof.Rows.firstMet_length_le (fun i => ns.getD i 0) ns.length
  have I2 : Inv X pins σ H1 { s1 with heap := h', toks := tk } := I1.kept fun b o e => hk b o (Heap.lt_size e) e
  exact call_len_set ho hex hd hf (by rw [hn] <;> omega) ⟨.int (distL ns), H1, I2.tok _, ⟨_, by rw [hn]; rfl⟩, q1⟩
theorem met_take (ns : List Int) : ∀ i, i ≤ ns.length → (firstMet (fun i => ns.getD i 0) i).length = i → firstMet (fun i => ns.getD i 0) i = ns.take i ∧ (ns.take i).Nodup
  | 0, _, _ => ⟨rfl, by simp⟩
  | i + 1, hi, h => by
    have hlt : i < ns.length := hi
    have e : ns.getD i 0 = ns[i] := by rw [List.getD_eq_getElem?_getD, List.getElem?_eq_getElem hlt] <;> rfl
    have hle := PyProof.Rows.firstMet_length_le (fun i => ns.getD i 0) i
    rw [PyProof.Rows.firstMet_succ] at h ⊢
    unfold PyProof.Rows.step_dedup at h ⊢
    by_cases hm : (firstMet (fun i => ns.getD i 0) i).any (· == ns.getD i 0) = true
    · rw [if_pos hm] at h
      omega
    · rw [if_neg hm] at h ⊢
      rw [List.length_append, List.length_singleton] at h
      obtain ⟨q1, q2⟩ := met_take ns i (Nat.le_of_lt hlt) (by omega)
      rw [q1] at hm ⊢
      have et : ns.take (i + 1) = ns.take i ++ [ns[i]] := by rw [List.take_succ, List.getElem?_eq_getElem hlt]; rfl
      refine ⟨by rw [et, e], ?_⟩
      rw [et, List.nodup_append]
      refine ⟨q2, by simp, fun a ha b hb => ?_⟩
      rw [List.mem_singleton.mp hb]
      intro z
      apply hm
      rw [List.any_eq_true]
      exact ⟨a, ha, by rw [e, z]; simp⟩
theorem dist_iff (ns : List Int) : distL ns = ns.length ↔ ns.Nodup := by
  unfold distL
  constructor
  · intro h
    have := (met_take ns ns.length (Nat.le_refl _) h).2
    rwa [List.take_length] at this
  · intro h
    rw [firstMet_nodup ns h ns.length (Nat.le_refl _), List.take_length]
section
variable {F : Fr} {ρ : List Sl} {pos p p2 q : Pos} {a : Expr}
theorem de_lenSet {ns : List Int} (hc : F.X.calm = true) (ha : DE F ρ a (.ok (.list (ns.map .int)))) (hz : ns.length < 64) (hg : Gl F.X "len" := by rfl) (hg2 : Gl F.X "set" := by rfl) (na : starEach [a] F.X.env = (false, eval a F.X.env) :: starEach [] F.X.env := by rfl) :
    DE F ρ (.Call (.Name "len" p) [.Call (.Name "set" p2) [a] [] q] [] pos) (.ok (.int (distL ns))) :=
  ⟨pe_imp (pe_lenSetD hc hg F.bl.len hg2 F.bl.set ha.pe na) fun σ H Q ⟨Hd, a0, k⟩ => tE_ok a0 fun v H1 Hd1 g1 dv => by
    cases dv with
    | lst r d =>
      have e := d.ofInts
      subst e
      exact ⟨_, ns, rfl, Same.seq g1.dh r, hz, k _ H1 Hd1 g1 (.int _)⟩⟩
end
end Dv
namespace Dv
open PySem L2 PyProof.Rows
/-- {} != {} -/
theorem bd_ne00 {X : Cx} (hu : X.A.units + 128 < cLine) : BinD X (compareOp .NotEq) (.dict []) (.dict []) (.bool false) := ⟨_, op_ne_dictA (by omega), fun x y H Hd Q s dx dy k => by
  cases dx with
  | dic r1 d1 =>
    cases d1
    cases dy with
    | dic r2 d2 =>
      cases d2
      exact ⟨_, _, [], [], rfl, rfl, s _ _ r1, s _ _ r2, rfl, (fun p hp => absurd hp (by simp)), k _ H Hd (.refl s) (.bl _)⟩⟩
end Dv
namespace Dv
open PySem L2 PyProof.Rows
/-! ### objects: lists, dicts, instances that change; what a def leaves of them -/
inductive OO where
  | l (ds : List PyData) | d (kvs : List (Key × PyData)) | o (C : Addr) (fs : List (Str × Sl)) | rl (ps : List Addr) | rd (kvs : List (Key × Addr)) | t (q : Str) | gl (xs : List Sl) | gd (kvs : List (Key × Sl)) | tp (xs : List Sl)
inductive FsOk (K : PySem.W.Frag) (Hd : Hp) : List (Str × V) → List (Str × Sl) → Prop
  | nil : FsOk K Hd [] []
  | cons {n : Str} {v : V} {x : Sl} {vs : List (Str × V)} {fs : List (Str × Sl)} : SlOk K Hd (some v) x → FsOk K Hd vs fs → FsOk K Hd ((n, v) :: vs) ((n, x) :: fs)
theorem FsOk.mono {K : PySem.W.Frag} {H H' : Hp} {vs : List (Str × V)} {fs : List (Str × Sl)} (h : FsOk K H vs fs) (s : Same H H') : FsOk K H' vs fs := by
  induction h with
  | nil => exact .nil
  | cons a _ ih => exact .cons (a.mono s) ih
theorem FsOk.get {K : PySem.W.Frag} {H : Hp} {vs : List (Str × V)} {fs : List (Str × Sl)} {n : Str} {x : Sl} (h : FsOk K H vs fs) (e : fs.lookup n = some x) : ∃ v, vs.lookup n = some v ∧ SlOk K H (some v) x := by
  induction h with
  | nil => cases e
  | @cons m v y vs fs a _ ih =>
    rw [List.lookup_cons] at e ⊢
    cases h : n == m with
    | true => rw [h] at e; cases e; exact ⟨v, rfl, a⟩
    | false => rw [h] at e; exact ih e
theorem FsOk.none {K : PySem.W.Frag} {H : Hp} {vs : List (Str × V)} {fs : List (Str × Sl)} {n : Str} (h : FsOk K H vs fs) (e : fs.lookup n = Option.none) : vs.lookup n = Option.none := by
  induction h with
  | nil => rfl
  | @cons m v y vs fs a _ ih =>
    rw [List.lookup_cons] at e ⊢
    cases h : n == m with
    | true => rw [h] at e; cases e
    | false => rw [h] at e; exact ih e
theorem FsOk.len {K : PySem.W.Frag} {H : Hp} {vs : List (Str × V)} {fs : List (Str × Sl)} (h : FsOk K H vs fs) : vs.length = fs.length := by
  induction h with
  | nil => rfl
  | cons _ _ ih => rw [List.length_cons, List.length_cons, ih]
/-- a field exchanged, or one more -/
def putFS (f : Str) (x : Sl) : List (Str × Sl) → List (Str × Sl)
  | [] => [(f, x)]
  | p :: r => if p.1 = f then (f, x) :: r else p :: putFS f x r
def OOk (K : PySem.W.Frag) (H Hd : Hp) (p : Addr) : OO → Prop
  | .l ds => ∃ vs, H p = some (.lst vs) ∧ DtA K Hd vs ds
  | .d kvs => ∃ us, H p = some (.dK us) ∧ us.map (·.1) = kvs.map (·.1) ∧ DtA K Hd (us.map (·.2)) (kvs.map (·.2))
  | .o C fs => ∃ dx vs, H p = some (.ins C dx vs) ∧ FsOk K Hd vs fs
  | .rl ps => H p = some (.lst (ps.map .ref))
  | .rd kvs => H p = some (.dK (kvs.map fun kv => (kv.1, V.ref kv.2)))
  | .t q => LamX.TabS H p q
  | .gl xs => ∃ vs, H p = some (.lst vs) ∧ EnvD K Hd (vs.map some) xs
  | .gd kvs => ∃ us : List (Key × V), H p = some (.dK us) ∧ us.map (·.1) = kvs.map (·.1) ∧ EnvD K Hd (us.map fun u => some u.2) (kvs.map (·.2))
  | .tp xs => ∃ vs, H p = some (.tup vs) ∧ EnvD K Hd (vs.map some) xs
abbrev Ms := List (Addr × OO)
def MsOk (K : PySem.W.Frag) (M : Ms) (H Hd : Hp) : Prop := ∀ e ∈ M, OOk K H Hd e.1 e.2 ∧ Hd e.1 = none
theorem OOk.live {K : PySem.W.Frag} {H Hd : Hp} {p : Addr} {m : OO} (h : OOk K H Hd p m) : H p ≠ none := by
  cases m with
  | l ds => obtain ⟨vs, e, _⟩ := h; rw [e]; exact fun z => nomatch z
  | d kvs => obtain ⟨us, e, _⟩ := h; rw [e]; exact fun z => nomatch z
  | o C fs => obtain ⟨dx, vs, e, _⟩ := h; rw [e]; exact fun z => nomatch z
  | rl ps => have e : H p = _ := h; rw [e]; exact fun z => nomatch z
  | rd kvs => have e : H p = _ := h; rw [e]; exact fun z => nomatch z
  | t q => obtain ⟨ps, e, _⟩ := h; rw [e]; exact fun z => nomatch z
  | gl xs => obtain ⟨vs, e, _⟩ := h; rw [e]; exact fun z => nomatch z
  | gd kvs => obtain ⟨us, e, _⟩ := h; rw [e]; exact fun z => nomatch z
  | tp xs => obtain ⟨vs, e, _⟩ := h; rw [e]; exact fun z => nomatch z
theorem OOk.noext {K : PySem.W.Frag} {H Hd : Hp} {p : Addr} {m : OO} (h : OOk K H Hd p m) {f : Heap → Prop} (e : H p = some (.ext f)) : False := by
  cases m with
  | l ds => obtain ⟨vs, e2, _⟩ := h; rw [e] at e2; cases e2
  | d kvs => obtain ⟨us, e2, _⟩ := h; rw [e] at e2; cases e2
  | o C fs => obtain ⟨dx, vs, e2, _⟩ := h; rw [e] at e2; cases e2
  | rl ps => have e2 : H p = _ := h; rw [e] at e2; cases e2
  | rd kvs => have e2 : H p = _ := h; rw [e] at e2; cases e2
  | t q => obtain ⟨ps, e2, _⟩ := h; rw [e] at e2; cases e2
  | gl xs => obtain ⟨vs, e2, _⟩ := h; rw [e] at e2; cases e2
  | gd kvs => obtain ⟨us, e2, _⟩ := h; rw [e] at e2; cases e2
  | tp xs => obtain ⟨vs, e2, _⟩ := h; rw [e] at e2; cases e2
theorem OOk.mono {K : PySem.W.Frag} {H Hd H' Hd' : Hp} {p : Addr} {m : OO} (h : OOk K H Hd p m) (e : ∀ o, H p = some o → H' p = some o) (x : ∀ b f, H b = some (.ext f) → H' b = some (.ext f)) (s : Same Hd Hd') : OOk K H' Hd' p m := by
  cases m with
  | l ds => obtain ⟨vs, q, d⟩ := h; exact ⟨vs, e _ q, d.mono s⟩
  | d kvs => obtain ⟨us, q, k, d⟩ := h; exact ⟨us, e _ q, k, d.mono s⟩
  | o C fs => obtain ⟨dx, vs, q, d⟩ := h; exact ⟨dx, vs, e _ q, d.mono s⟩
  | rl ps => exact e _ h
  | gl xs => obtain ⟨vs, q, d⟩ := h; exact ⟨vs, e _ q, d.mono s⟩
  | gd kvs => obtain ⟨us, q, k, d⟩ := h; exact ⟨us, e _ q, k, d.mono s⟩
  | tp xs => obtain ⟨vs, q, d⟩ := h; exact ⟨vs, e _ q, d.mono s⟩
  | rd kvs => exact e _ h
  | t q =>
    obtain ⟨ps, h1, h2, h3⟩ := h
    refine ⟨ps, e _ h1, h2, fun pos cv hc => ?_⟩
    obtain ⟨c, e1, e2⟩ := h3 pos cv hc
    exact ⟨c, e1, x _ _ e2⟩
theorem MsOk.go {K : PySem.W.Frag} {M : Ms} {H Hd H' Hd' : Hp} (h : MsOk K M H Hd) (g : Grw H Hd H' Hd') : MsOk K M H' Hd' := fun e he =>
  ⟨(h e he).1.mono (fun o q => g.hh _ _ q) (fun b f q => g.hh _ _ q) g.dd, g.fr _ (h e he).1.live (h e he).2⟩
theorem MsOk.perm {K : PySem.W.Frag} {M M' : Ms} {H Hd : Hp} (h : MsOk K M H Hd) (p : M.Perm M') : MsOk K M' H Hd := fun e he => h e (p.mem_iff.mpr he)
def Fr.ms (F : Fr) (M : Ms) : Fr where
  X := F.X
  o := { W := F.o.W, Ψ := fun H Hd => MsOk F.X.K M H Hd, st := fun h g => h.go g }
  tk := F.tk
  hu := F.hu
  bl := F.bl
  po := F.po
  nd := F.nd
abbrev adr (M : Ms) : List Addr := M.map (·.1)
/-- from heaps H0, Hd0 on: changes at A alone; M is what is held now -/
structure Ex (A : List Addr) (H0 Hd0 : Hp) (K : PySem.W.Frag) (M : Ms) (H Hd : Hp) : Prop where
  g : Mg A H0 Hd0 H Hd
  lv : ∀ x, H0 x ≠ none → H x ≠ none
  m : MsOk K M H Hd
  n : ∀ e ∈ M, e.1 ∈ A ∨ H0 e.1 = none
  u : (adr M).Nodup
section
variable {K : PySem.W.Frag} {M M' Mr Mc : Ms} {A B : List Addr} {H0 Hd0 H Hd H' Hd' : Hp}
theorem Ex.refl (s : Same Hd H) (m : MsOk K M H Hd) (u : (adr M).Nodup) : Ex (adr M) H Hd K M H Hd :=
  ⟨Mg.refl s, fun _ h => h, m, fun e he => .inl (List.mem_map.mpr ⟨e, he, rfl⟩), u⟩
theorem Ex.off (x : Ex A H0 Hd0 K M H Hd) {a : Addr} (h : a ∈ adr M) : a ∈ A ∨ H0 a = none := by
  obtain ⟨e, he, rfl⟩ := List.mem_map.mp h
  exact x.n e he
theorem Ex.trans (x : Ex A H0 Hd0 K M H Hd) (y : Ex (adr M) H Hd K M' H' Hd') : Ex A H0 Hd0 K M' H' Hd' where
  g := by
    refine ⟨fun a o n e => ?_, x.g.dd.trans y.g.dd, y.g.dh, fun a h1 h2 => y.g.fr a (x.lv a h1) (x.g.fr a h1 h2)⟩
    have e1 := x.g.hh a o n e
    refine y.g.hh a o (fun z => ?_) e1
    rcases x.off z with q | q
    · exact n q
    · rw [q] at e; cases e
  lv := fun a h => y.lv a (x.lv a h)
  m := y.m
  n := fun e he => by
    rcases y.n e he with q | q
    · exact x.off q
    · refine .inr (Classical.byContradiction fun z => ?_)
      exact x.lv _ z q
  u := y.u
theorem Ex.perm (x : Ex A H0 Hd0 K M H Hd) (p : M.Perm M') : Ex A H0 Hd0 K M' H Hd :=
  ⟨x.g, x.lv, x.m.perm p, fun e he => x.n e (p.mem_iff.mpr he), (p.map _).nodup_iff.mp x.u⟩
theorem Ex.grw (s : MsOk K M H Hd) (u : (adr M).Nodup) (g : Grw H Hd H' Hd') : Ex (adr M) H Hd K M H' Hd' :=
  ⟨.of g, fun x h => Same.ne g.hh h, s.go g, fun e he => .inl (List.mem_map.mpr ⟨e, he, rfl⟩), u⟩
theorem adr_app : adr (Mc ++ Mr) = adr Mc ++ adr Mr := List.map_append ..
/-- a part changes, the rest stays -/
theorem Ex.frame (m : MsOk K (Mc ++ Mr) H Hd) (u : (adr (Mc ++ Mr)).Nodup) (x : Ex (adr Mc) H Hd K M' H' Hd') : Ex (adr (Mc ++ Mr)) H Hd K (M' ++ Mr) H' Hd' := by
  rw [adr_app] at u
  obtain ⟨u1, u2, u3⟩ := List.nodup_append.mp u
  have liv : ∀ e ∈ Mr, H e.1 ≠ none := fun e he => (m e (List.mem_append_right _ he)).1.live
  have sep : ∀ e ∈ Mr, e.1 ∉ adr Mc := fun e he z => u3 _ z _ (List.mem_map.mpr ⟨e, he, rfl⟩) rfl
  refine ⟨⟨fun a o n e => x.g.hh a o (fun z => n (by rw [adr_app]; exact List.mem_append_left _ z)) e, x.g.dd, x.g.dh, x.g.fr⟩, x.lv, fun e he => ?_, fun e he => ?_, ?_⟩
  · rcases List.mem_append.mp he with q | q
    · exact x.m e q
    · have k := m e (List.mem_append_right _ q)
      exact ⟨k.1.mono (fun o z => x.g.hh _ _ (sep e q) z) (fun b f z => x.g.hh _ _ (fun w => by
        obtain ⟨e2, he2, rfl⟩ := List.mem_map.mp w
        exact (m e2 (List.mem_append_left _ he2)).1.noext z) z) x.g.dd, x.g.fr _ (liv e q) k.2⟩
  · rcases List.mem_append.mp he with q | q
    · rcases x.n e q with z | z
      · exact .inl (by rw [adr_app]; exact List.mem_append_left _ z)
      · exact .inr z
    · exact .inl (by rw [adr_app]; exact List.mem_append_right _ (List.mem_map.mpr ⟨e, q, rfl⟩))
  · rw [adr_app]
    refine List.nodup_append.mpr ⟨x.u, u2, fun a ha b hb z => ?_⟩
    subst z
    obtain ⟨e, he, rfl⟩ := List.mem_map.mp hb
    rcases x.off ha with q | q
    · exact sep e he q
    · exact liv e he q
theorem Ex.s (x : Ex A H0 Hd0 K M H Hd) : Same Hd H := x.g.dh
end
/-! ### expressions -/
/-- without a change: to x -/
def SE (F : Fr) (M : Ms) (ρ : List Sl) (e : Expr) (x : Sl) : Prop := ∃ t, PE F.X e t ∧ ∀ σ H Hd Q, At F.X.K (F.ms M).o ρ σ H Hd → (∀ v H' Hd', Grw H Hd H' Hd' → SlOk F.X.K Hd' (some v) x → Q v H') → t σ H Q
def YE (F : Fr) (M : Ms) (ρ : List Sl) (e : Expr) (P : Sl → Ms → Prop) (W : Addr → Ms → Prop) : Prop := ∃ t, PE F.X e t ∧ ∀ σ H Hd Q, (adr M).Nodup → At F.X.K (F.ms M).o ρ σ H Hd →
  (∀ v H' Hd' x M', P x M' → Ex (adr M) H Hd F.X.K M' H' Hd' → SlOk F.X.K Hd' (some v) x → Q v H') → (∀ C M' H' Hd', W C M' → Ex (adr M) H Hd F.X.K M' H' Hd' → F.o.W (.ref C) none σ H') → t σ H Q
def YT (F : Fr) (M : Ms) (ρ : List Sl) (e : Expr) (P : Bool → Ms → Prop) (W : Addr → Ms → Prop) : Prop := ∃ t, PT F.X e t ∧ ∀ σ H Hd Q, (adr M).Nodup → At F.X.K (F.ms M).o ρ σ H Hd →
  (∀ b H' Hd' M', P b M' → Ex (adr M) H Hd F.X.K M' H' Hd' → Q b H') → (∀ C M' H' Hd', W C M' → Ex (adr M) H Hd F.X.K M' H' Hd' → F.o.W (.ref C) none σ H') → t σ H Q
def YA (F : Fr) (M : Ms) (ρ : List Sl) (es : List Expr) (P : List Sl → Ms → Prop) (W : Addr → Ms → Prop) : Prop := ∃ t, PA F.X es t ∧ ∀ σ H Hd Q, (adr M).Nodup → At F.X.K (F.ms M).o ρ σ H Hd →
  (∀ vs H' Hd' xs M', P xs M' → Ex (adr M) H Hd F.X.K M' H' Hd' → EnvD F.X.K Hd' (vs.map some) xs → Q vs H') → (∀ C M' H' Hd', W C M' → Ex (adr M) H Hd F.X.K M' H' Hd' → F.o.W (.ref C) none σ H') → t σ H Q
section
variable {F : Fr} {M M' : Ms} {ρ : List Sl} {pos p : Pos} {e a b c : Expr} {es : List Expr} {x : Sl} {d : PyData} {P : Sl → Ms → Prop} {W : Addr → Ms → Prop} {PB : Bool → Ms → Prop} {PL : List Sl → Ms → Prop}
theorem at_ms {σ : L2.St} {H0 Hd0 H Hd : Hp} {A : List Addr} (x : Ex A H0 Hd0 F.X.K M H Hd) (e : EnvD F.X.K Hd σ ρ) : At F.X.K (F.ms M).o ρ σ H Hd := ⟨x.g.dh, e, x.m⟩
theorem se_de (h : DE (F.ms M) ρ e (.ok d)) : SE F M ρ e (.da d) := ⟨_, h.pe, fun σ H Hd Q a k => tE_ok a fun v H' Hd' g dv => k v H' Hd' g ⟨v, rfl, dv⟩⟩
theorem de_se (h : SE F M ρ e (.da d)) : DE (F.ms M) ρ e (.ok d) := by
  obtain ⟨t, pe, i⟩ := h
  refine ⟨pe_imp pe fun σ H Q ⟨Hd, a, k⟩ => i σ H Hd Q a fun v H' Hd' g sl => ?_⟩
  obtain ⟨w, e, dv⟩ := sl
  cases e
  exact k v H' Hd' g dv
theorem se_nm {y : Str} {q : Addr} (hy : ρ[nix F.X.N y]? = some (.rf q)) (hi : F.X.N[nix F.X.N y]? = some y) (hv : Vis F.X.env.scope y) (hd : (y == ("__debug__" : Str)) = false := by decide) (hcd : (y == ("__classdict__" : Str)) = false := by decide) : SE F M ρ (.Name y p) (.rf q) :=
  ⟨_, pe_var hi hv hd hcd, fun σ H Hd Q a k => ⟨.ref q, EnvD.rf a.e hy, k _ H Hd (.refl a.s) rfl⟩⟩
theorem ye_se (h : SE F M ρ e x) (k : P x M) : YE F M ρ e P W := by
  obtain ⟨t, pe, i⟩ := h
  exact ⟨t, pe, fun σ H Hd Q u a k1 _ => i σ H Hd Q a fun v H' Hd' g sl => k1 v H' Hd' x M k (.grw a.p u g) sl⟩
theorem ye_de (h : DE (F.ms M) ρ e (.ok d)) (k : P (.da d) M) : YE F M ρ e P W := ye_se (se_de h) k
theorem ye_er {C : Addr} (h : DE (F.ms M) ρ e (.er C)) (k : W C M) : YE F M ρ e P W := ⟨_, h.pe, fun σ H Hd Q u a k1 k2 => ⟨Hd, a, fun H' Hd' g => k2 C M H' Hd' k (.grw a.p u g)⟩⟩
theorem ye_imp {P' : Sl → Ms → Prop} {W' : Addr → Ms → Prop} (h : YE F M ρ e P' W') (i : ∀ x M', P' x M' → P x M') (j : ∀ C M', W' C M' → W C M') : YE F M ρ e P W := by
  obtain ⟨t, pe, q⟩ := h
  exact ⟨t, pe, fun σ H Hd Q u a k1 k2 => q σ H Hd Q u a (fun v H' Hd' x M' z => k1 v H' Hd' x M' (i _ _ z)) fun C M' H' Hd' z => k2 C M' H' Hd' (j _ _ z)⟩
theorem ye_perm {M1 : Ms} (hp : M.Perm M1) (h : YE F M1 ρ e P W) : YE F M ρ e P W := by
  obtain ⟨t, pe, q⟩ := h
  have hm : ∀ x, x ∈ adr M1 ↔ x ∈ adr M := fun x => ((hp.map (·.1)).mem_iff).symm
  have bend : ∀ {H Hd H' Hd' : Hp} {M' : Ms}, Ex (adr M1) H Hd F.X.K M' H' Hd' → Ex (adr M) H Hd F.X.K M' H' Hd' := fun x =>
    ⟨⟨fun a o n e => x.g.hh a o (fun z => n ((hm a).mp z)) e, x.g.dd, x.g.dh, x.g.fr⟩, x.lv, x.m, fun e he => (x.n e he).imp (fun z => (hm _).mp z) id, x.u⟩
  exact ⟨t, pe, fun σ H Hd Q u a k1 k2 => q σ H Hd Q ((hp.map _).nodup_iff.mp u) ⟨a.s, a.e, MsOk.perm (show MsOk F.X.K M H Hd from a.p) hp⟩ (fun v H' Hd' x M' z w => k1 v H' Hd' x M' z (bend w)) fun C M' H' Hd' z w => k2 C M' H' Hd' z (bend w)⟩
/-! ### tests -/
theorem yt_dt (h : DT (F.ms M) ρ e b0) (k : PB b0 M) : YT F M ρ e PB W := ⟨_, h.pt, fun σ H Hd Q u a k1 _ => ⟨Hd, a, fun H' Hd' g => k1 b0 H' Hd' M k (.grw a.p u g)⟩⟩
/-! ### arguments -/
theorem ya_nil (k : PL [] M) : YA F M ρ [] PL W := ⟨_, pa_nil, fun σ H Hd Q u a k1 _ => k1 [] H Hd [] M k (.refl a.s a.p u) .nil⟩
theorem ya_cons (h : SE F M ρ e x) (t : YA F M ρ es (fun xs M' => PL (x :: xs) M') W) (hs : starEach (e :: es) F.X.env = (false, eval e F.X.env) :: starEach es F.X.env := by rfl) : YA F M ρ (e :: es) PL W := by
  obtain ⟨t1, p1, i1⟩ := h
  obtain ⟨t2, p2, i2⟩ := t
  refine ⟨_, pa_cons p1 p2 hs, fun σ H Hd Q u a k1 k2 => i1 σ H Hd _ a fun v H1 Hd1 g1 s1 => ?_⟩
  have x1 : Ex (adr M) H Hd F.X.K M H1 Hd1 := .grw a.p u g1
  exact i2 σ H1 Hd1 _ u (a.go g1) (fun vs H2 Hd2 xs M2 z x2 da => k1 (v :: vs) H2 Hd2 (x :: xs) M2 z (x1.trans x2) (.cons (s1.mono x2.g.dd) da)) fun C M2 H2 Hd2 z x2 => k2 C M2 H2 Hd2 z (x1.trans x2)
/-- the last one may change things -/
theorem ya_last (h : YE F M ρ e (fun x M' => PL [x] M') W) (hs : starEach [e] F.X.env = (false, eval e F.X.env) :: starEach [] F.X.env := by rfl) : YA F M ρ [e] PL W := by
  obtain ⟨t1, p1, i1⟩ := h
  exact ⟨_, pa_cons p1 pa_nil hs, fun σ H Hd Q u a k1 k2 => i1 σ H Hd _ u a (fun v H1 Hd1 x M1 z x1 s1 => k1 [v] H1 Hd1 [x] M1 z x1 (.cons s1 .nil)) k2⟩
end
end Dv
namespace Dv
open PySem L2 PyProof.Rows
/-! ### statements: what holds behind each end -/
structure YO where
  nx : List Sl → Ms → Prop := fun _ _ => False
  bk : List Sl → Ms → Prop := fun _ _ => False
  ct : List Sl → Ms → Prop := fun _ _ => False
  rt : Sl → Ms → Prop := fun _ _ => False
  er : Addr → Ms → Prop := fun _ _ => False
structure KY (K : PySem.W.Frag) (w : Ow) (D : Ends) (B : List Addr) (H0 Hd0 Hb : Hp) (o : YO) : Prop where
  nx : ∀ σ' H' Hd' ρ' M', o.nx ρ' M' → Ex B H0 Hd0 K M' H' Hd' → Same Hb Hd' → EnvD K Hd' σ' ρ' → D.nx σ' H'
  bk : ∀ σ' H' Hd' ρ' M', o.bk ρ' M' → Ex B H0 Hd0 K M' H' Hd' → Same Hb Hd' → EnvD K Hd' σ' ρ' → D.bk σ' H'
  ct : ∀ σ' H' Hd' ρ' M', o.ct ρ' M' → Ex B H0 Hd0 K M' H' Hd' → Same Hb Hd' → EnvD K Hd' σ' ρ' → D.ct σ' H'
  rt : ∀ v H' Hd' x M', o.rt x M' → Ex B H0 Hd0 K M' H' Hd' → SlOk K Hd' (some v) x → D.rt v H'
  er : ∀ C M' σ' H' Hd', o.er C M' → Ex B H0 Hd0 K M' H' Hd' → w.W (.ref C) none σ' H'
structure AtY (K : PySem.W.Frag) (B : List Addr) (M : Ms) (ρ : List Sl) (σ : L2.St) (H0 Hd0 Hb H Hd : Hp) : Prop where
  x : Ex B H0 Hd0 K M H Hd
  l : ∀ b ∈ B, H0 b ≠ none
  b : Same Hb Hd
  e : EnvD K Hd σ ρ
def tY (K : PySem.W.Frag) (w : Ow) (B : List Addr) (M : Ms) (ρ : List Sl) (o : YO) : TS := fun D σ H => ∃ H0 Hd0 Hb Hd, AtY K B M ρ σ H0 Hd0 Hb H Hd ∧ KY K w D B H0 Hd0 Hb o
structure DY (F : Fr) (B : List Addr) (M : Ms) (ρ : List Sl) (sts : List Stmt) (o : YO) : Prop where
  pb : PSs F.X sts (tY F.X.K F.o B M ρ o)
section
variable {F : Fr} {B : List Addr} {M M' : Ms} {ρ ρ' : List Sl} {pos : Pos} {c e a : Expr} {rest A A2 : List Stmt} {st : Stmt} {o : YO} {d : PyData} {C : Addr} {x : Bool}
theorem AtY.at {σ : L2.St} {H0 Hd0 Hb H Hd : Hp} (a : AtY F.X.K B M ρ σ H0 Hd0 Hb H Hd) : At F.X.K (F.ms M).o ρ σ H Hd := at_ms a.x a.e
theorem AtY.go {K : PySem.W.Frag} {σ σ' : L2.St} {H0 Hd0 Hb H Hd H' Hd' : Hp} (a : AtY K B M ρ σ H0 Hd0 Hb H Hd) (g : Ex (adr M) H Hd K M' H' Hd') (e : EnvD K Hd' σ' ρ') : AtY K B M' ρ' σ' H0 Hd0 Hb H' Hd' := ⟨a.x.trans g, a.l, a.b.trans g.g.dd, e⟩
theorem AtY.goG {K : PySem.W.Frag} {σ σ' : L2.St} {H0 Hd0 Hb H Hd H' Hd' : Hp} (a : AtY K B M ρ σ H0 Hd0 Hb H Hd) (g : Grw H Hd H' Hd') (e : EnvD K Hd' σ' ρ') : AtY K B M ρ' σ' H0 Hd0 Hb H' Hd' := a.go (.grw a.x.m a.x.u g) e
theorem AtY.fresh {K : PySem.W.Frag} {σ : L2.St} {H0 Hd0 Hb H Hd : Hp} (a : AtY K B M ρ σ H0 Hd0 Hb H Hd) {p : Addr} (h : H p = none) : p ∉ B := fun z => a.x.lv p (a.l p z) h
theorem dy_step (h : PS F.X st t) (i : ∀ D σ H, tY F.X.K F.o B M ρ o D σ H → t { D with nx := uB F.X rest D } σ H) : DY F B M ρ (st :: rest) o := ⟨pss_imp (pss_cons h pss_u) fun D σ H q => i D σ H q⟩
theorem dy_nil (h : o.nx ρ M) : DY F B M ρ [] o := ⟨pss_imp pss_nil fun D σ H ⟨H0, Hd0, Hb, Hd, a, k⟩ => k.nx σ H Hd ρ M h a.x a.b a.e⟩
theorem dy_lift (h : DS (F.ms M) ρ st (.nx ρ')) (r : DY F B M ρ' rest o) : DY F B M ρ (st :: rest) o := dy_step h.ps fun D σ H ⟨H0, Hd0, Hb, Hd, a, k⟩ =>
  ⟨Hd, a.at, fun σ' H' Hd' g e => ⟨_, r.pb, H0, Hd0, Hb, Hd', a.goG g e, k⟩⟩
theorem dy_liftR (h : DS (F.ms M) ρ st (.ret d)) (r : o.rt (.da d) M) : DY F B M ρ (st :: rest) o := dy_step h.ps fun D σ H ⟨H0, Hd0, Hb, Hd, a, k⟩ =>
  ⟨Hd, a.at, fun v H' Hd' g dv => k.rt v H' Hd' _ M r (a.goG g (a.e.mono g.dd)).x ⟨v, rfl, dv⟩⟩
theorem dy_liftE (h : DS (F.ms M) ρ st (.er C)) (r : o.er C M) : DY F B M ρ (st :: rest) o := dy_step h.ps fun D σ H ⟨H0, Hd0, Hb, Hd, a, k⟩ =>
  ⟨Hd, a.at, fun σ' H' Hd' g => k.er C M σ' H' Hd' r (a.goG g (a.e.mono g.dd)).x⟩
theorem dy_ct (r : o.ct ρ M) : DY F B M ρ (.Continue pos :: rest) o := dy_step ps_continue fun D σ H ⟨H0, Hd0, Hb, Hd, a, k⟩ => k.ct σ H Hd ρ M r a.x a.b a.e
theorem DY.wk (h : DY F B M ρ' A o) (w : Wk ρ ρ') : DY F B M ρ A o := ⟨pss_imp h.pb fun D σ H ⟨H0, Hd0, Hb, Hd, a, k⟩ => ⟨H0, Hd0, Hb, Hd, ⟨a.x, a.l, a.b, EnvD.wk a.e w⟩, k⟩⟩
theorem DY.perm (h : DY F B M' ρ A o) (p : M.Perm M') : DY F B M ρ A o := ⟨pss_imp h.pb fun D σ H ⟨H0, Hd0, Hb, Hd, a, k⟩ => ⟨H0, Hd0, Hb, Hd, ⟨a.x.perm p, a.l, a.b, a.e⟩, k⟩⟩
theorem DY.imp {o' : YO} (h : DY F B M ρ A o') (n : ∀ r m, o'.nx r m → o.nx r m) (b : ∀ r m, o'.bk r m → o.bk r m) (c : ∀ r m, o'.ct r m → o.ct r m) (t : ∀ r m, o'.rt r m → o.rt r m) (w : ∀ r m, o'.er r m → o.er r m) : DY F B M ρ A o :=
  ⟨pss_imp h.pb fun D σ H ⟨H0, Hd0, Hb, Hd, a, k⟩ => ⟨H0, Hd0, Hb, Hd, a, fun σ' H' Hd' ρ' M' z => k.nx σ' H' Hd' ρ' M' (n _ _ z), fun σ' H' Hd' ρ' M' z => k.bk σ' H' Hd' ρ' M' (b _ _ z), fun σ' H' Hd' ρ' M' z => k.ct σ' H' Hd' ρ' M' (c _ _ z), fun v H' Hd' x M' z => k.rt v H' Hd' x M' (t _ _ z), fun C M' σ' H' Hd' z => k.er C M' σ' H' Hd' (w _ _ z)⟩⟩
/-- something that nobody names is let go -/
theorem DY.drop {q : Addr × OO} (h : DY F B M ρ A o) : DY F B (q :: M) ρ A o := ⟨pss_imp h.pb fun D σ H ⟨H0, Hd0, Hb, Hd, a, k⟩ => ⟨H0, Hd0, Hb, Hd, ⟨⟨a.x.g, a.x.lv, fun e z => a.x.m e (List.mem_cons_of_mem _ z), fun e z => a.x.n e (List.mem_cons_of_mem _ z), (List.nodup_cons.mp a.x.u).2⟩, a.l, a.b, a.e⟩, k⟩⟩
/-! ### with effects -/
theorem dy_asg {y : Str} {py : Pos} (h : YE F M ρ e (fun x M' => DY F B M' (ρ.set (nix F.X.N y) x) rest o) o.er) (hi : F.X.N[nix F.X.N y]? = some y) (hx : Loc F.X.env.scope y) (hf : F.X.fn y = true ∨ F.X.env.scope.names.lookup y = some .local := by first | exact .inl rfl | exact .inr rfl)
    (hs : swapsWithSole [.Name y py] e pos.line F.X.env = pure false := by rfl) (hw : swappedStores [.Name y py] e F.X.env = pure none := by rfl) (h1 : (assignEach [.Name y py] F.X.env).map (·.2) = [assign (.Name y py) F.X.env] := by rfl) : DY F B M ρ (.Assign [.Name y py] e pos :: rest) o := by
  obtain ⟨t, pe, i⟩ := h
  exact dy_step (ps_asg pe (pg_name F.nd hi hx hf) hs hw h1) fun D σ H ⟨H0, Hd0, Hb, Hd, a, k⟩ => i σ H Hd _ a.x.u a.at (fun v H1 Hd1 sl M1 r x1 s1 => ⟨_, r.pb, H0, Hd0, Hb, Hd1, a.go x1 (EnvD.set _ (a.e.mono x1.g.dd) s1), k⟩) fun C M1 H1 Hd1 z x1 => k.er C M1 σ H1 Hd1 z (a.x.trans x1)
theorem dy_expr (h : YE F M ρ e (fun _ M' => DY F B M' ρ rest o) o.er) (hs : swapsWith e none pos.line F.X.env = pure false := by rfl) : DY F B M ρ (.Expr e pos :: rest) o := by
  obtain ⟨t, pe, i⟩ := h
  exact dy_step (ps_expr pe hs) fun D σ H ⟨H0, Hd0, Hb, Hd, a, k⟩ => i σ H Hd _ a.x.u a.at (fun v H1 Hd1 sl M1 r x1 s1 => ⟨_, r.pb, H0, Hd0, Hb, Hd1, a.go x1 (a.e.mono x1.g.dd), k⟩) fun C M1 H1 Hd1 z x1 => k.er C M1 σ H1 Hd1 z (a.x.trans x1)
theorem dy_ret (h : YE F M ρ e o.rt o.er) : DY F B M ρ (.Return (some e) pos :: rest) o := by
  obtain ⟨t, pe, i⟩ := h
  exact dy_step (ps_ret pe) fun D σ H ⟨H0, Hd0, Hb, Hd, a, k⟩ => i σ H Hd _ a.x.u a.at (fun v H1 Hd1 sl M1 r x1 s1 => k.rt v H1 Hd1 sl M1 r (a.x.trans x1) s1) fun C M1 H1 Hd1 z x1 => k.er C M1 σ H1 Hd1 z (a.x.trans x1)
def YO.on (o : YO) (F : Fr) (B : List Addr) (rest : List Stmt) : YO := { o with nx := fun ρ' M' => DY F B M' ρ' rest o }
theorem KY.on {w : Ow} {D : Ends} {H0 Hd0 Hb : Hp} (k : KY F.X.K F.o D B H0 Hd0 Hb o) (l : ∀ b ∈ B, H0 b ≠ none) : KY F.X.K F.o { D with nx := uB F.X rest D } B H0 Hd0 Hb (o.on F B rest) where
  nx := fun σ' H' Hd' ρ' M' z x b e => ⟨_, DY.pb z, H0, Hd0, Hb, Hd', ⟨x, l, b, e⟩, k⟩
  bk := k.bk
  ct := k.ct
  rt := k.rt
  er := k.er
theorem dy_if (h : YT F M ρ c (fun x M' => (x = true → DY F B M' ρ A (o.on F B rest)) ∧ (x = false → DY F B M' ρ A2 (o.on F B rest))) o.er) : DY F B M ρ (.If c A A2 pos :: rest) o := by
  obtain ⟨t, pt, i⟩ := h
  refine dy_step (ps_if pt pss_u pss_u) fun D σ H ⟨H0, Hd0, Hb, Hd, a, k⟩ => i σ H Hd _ a.x.u a.at (fun b H1 Hd1 M1 r x1 => ?_) fun C M1 H1 Hd1 z x1 => k.er C M1 σ H1 Hd1 z (a.x.trans x1)
  cases b with
  | true => exact ⟨_, (r.1 rfl).pb, H0, Hd0, Hb, Hd1, a.go x1 (a.e.mono x1.g.dd), k.on (w := F.o) a.l⟩
  | false => exact ⟨_, (r.2 rfl).pb, H0, Hd0, Hb, Hd1, a.go x1 (a.e.mono x1.g.dd), k.on (w := F.o) a.l⟩
theorem dy_ifT (h : DT (F.ms M) ρ c x) (hx : x = true) (r : DY F B M ρ A (o.on F B rest)) : DY F B M ρ (.If c A A2 pos :: rest) o := dy_if (yt_dt h ⟨fun _ => r, fun z => Bool.noConfusion (hx.symm.trans z)⟩)
theorem dy_ifF (h : DT (F.ms M) ρ c x) (hx : x = false) (r : DY F B M ρ A2 (o.on F B rest)) : DY F B M ρ (.If c A A2 pos :: rest) o := dy_if (yt_dt h ⟨fun z => Bool.noConfusion (hx.symm.trans z), fun _ => r⟩)
theorem dy_skip (h : DT (F.ms M) ρ c x) (hx : x = false) (r : DY F B M ρ rest o) : DY F B M ρ (.If c A [] pos :: rest) o := dy_ifF h hx (dy_nil r)
/-! ### new lists, dicts -/
theorem dy_new {y : Str} {py : Pos} {m : OO} {t : TE} (pe : PE F.X e t) (i : ∀ σ H Hd Q, At F.X.K (F.ms M).o ρ σ H Hd → (∀ H' Hd' p ho, Grw H Hd H' Hd' → H' p = none → OOk F.X.K (L2.upd H' p ho) Hd' p m → Q (.ref p) (L2.upd H' p ho)) → t σ H Q)
    (r : ∀ p, p ∉ B → DY F B ((p, m) :: M) (ρ.set (nix F.X.N y) (.rf p)) rest o) (hi : F.X.N[nix F.X.N y]? = some y) (hl : Loc F.X.env.scope y) (hf : F.X.fn y = true ∨ F.X.env.scope.names.lookup y = some .local := by first | exact .inl rfl | exact .inr rfl)
    (hs : swapsWith e (some (.Name y py)) pos.line F.X.env = pure false := by rfl) : DY F B M ρ (.Assign [.Name y py] e pos :: rest) o := by
  refine dy_step (ps_set F.nd hi hl pe hs hf) fun D σ H ⟨H0, Hd0, Hb, Hd, a, k⟩ => ?_
  refine i σ H Hd _ a.at fun H' Hd' p ho g hp hm => ?_
  have a1 := a.goG g (a.e.mono g.dd)
  have gn : Grw H' Hd' (L2.upd H' p ho) Hd' := .junk g.dh hp
  refine ⟨_, (r p (a1.fresh hp)).pb, H0, Hd0, Hb, Hd', ⟨⟨(a1.goG gn a1.e).x.g, (a1.goG gn a1.e).x.lv, fun q hq => ?_, fun q hq => ?_, List.nodup_cons.mpr ⟨fun z => ?_, a.x.u⟩⟩, a.l, a1.b, EnvD.set _ a1.e rfl⟩, k⟩
  · rcases List.mem_cons.mp hq with e1 | e1
    · subst e1; exact ⟨hm, g.dh.free hp⟩
    · exact (a1.goG gn a1.e).x.m q e1
  · rcases List.mem_cons.mp hq with e1 | e1
    · subst e1; exact .inr (Classical.byContradiction fun z => a1.x.lv _ z hp)
    · exact a.x.n q e1
  · obtain ⟨q, hq, e1⟩ := List.mem_map.mp z
    have := (a1.x.m q hq).1.live
    rw [e1] at this
    exact this hp
theorem dy_newL {y : Str} {py p0 : Pos} (r : ∀ p, p ∉ B → DY F B ((p, .l []) :: M) (ρ.set (nix F.X.N y) (.rf p)) rest o) (hi : F.X.N[nix F.X.N y]? = some y) (hl : Loc F.X.env.scope y) (hf : F.X.fn y = true ∨ F.X.env.scope.names.lookup y = some .local := by first | exact .inl rfl | exact .inr rfl)
    (hs : swapsWith (.List [] p0) (some (.Name y py)) pos.line F.X.env = pure false := by rfl) : DY F B M ρ (.Assign [.Name y py] (.List [] p0) pos :: rest) o :=
  dy_new (m := .l []) (pe_lst pa_nil) (fun σ H Hd Q a k => ⟨Nat.zero_le _, fun p hp => k H Hd p _ (.refl a.s) hp ⟨[], upd_same, .nil⟩⟩) r hi hl hf hs
theorem dy_newD {y : Str} {py p0 : Pos} (r : ∀ p, p ∉ B → DY F B ((p, .d []) :: M) (ρ.set (nix F.X.N y) (.rf p)) rest o) (hi : F.X.N[nix F.X.N y]? = some y) (hl : Loc F.X.env.scope y) (hf : F.X.fn y = true ∨ F.X.env.scope.names.lookup y = some .local := by first | exact .inl rfl | exact .inr rfl)
    (hs : swapsWith (.Dict [] [] p0) (some (.Name y py)) pos.line F.X.env = pure false := by rfl) : DY F B M ρ (.Assign [.Name y py] (.Dict [] [] p0) pos :: rest) o :=
  dy_new (m := .d []) pe_dnewK (fun σ H Hd Q a k => fun p hp => k H Hd p _ (.refl a.s) hp ⟨[], upd_same, rfl, .nil⟩) r hi hl hf hs
theorem ye_newL {P : Sl → Ms → Prop} {W : Addr → Ms → Prop} (r : ∀ p, P (.rf p) ((p, .l []) :: M)) : YE F M ρ (.List [] pos) P W := ⟨_, pe_lst pa_nil, fun σ H Hd Q u a k1 _ => ⟨Nat.zero_le _, fun p hp => by
  have m0 : MsOk F.X.K M H Hd := a.p
  have gn : Grw H Hd (L2.upd H p (.lst [])) Hd := .junk a.s hp
  have x := Ex.grw m0 u gn
  refine k1 _ _ Hd _ _ (r p) ⟨x.g, x.lv, fun q hq => ?_, fun q hq => ?_, List.nodup_cons.mpr ⟨fun z => ?_, u⟩⟩ rfl
  · rcases List.mem_cons.mp hq with e1 | e1
    · subst e1; exact ⟨⟨[], upd_same, .nil⟩, a.s.free hp⟩
    · exact x.m q e1
  · rcases List.mem_cons.mp hq with e1 | e1
    · subst e1; exact .inr hp
    · exact x.n q e1
  · obtain ⟨q, hq, e1⟩ := List.mem_map.mp z
    have := (m0 q hq).1.live
    rw [e1] at this
    exact this hp⟩⟩
theorem ye_newD {P : Sl → Ms → Prop} {W : Addr → Ms → Prop} (r : ∀ p, P (.rf p) ((p, .d []) :: M)) : YE F M ρ (.Dict [] [] pos) P W := ⟨_, pe_dnewK, fun σ H Hd Q u a k1 _ => fun p hp => by
  have m0 : MsOk F.X.K M H Hd := a.p
  have gn : Grw H Hd (L2.upd H p (.dK [])) Hd := .junk a.s hp
  have x := Ex.grw m0 u gn
  refine k1 _ _ Hd _ _ (r p) ⟨x.g, x.lv, fun q hq => ?_, fun q hq => ?_, List.nodup_cons.mpr ⟨fun z => ?_, u⟩⟩ rfl
  · rcases List.mem_cons.mp hq with e1 | e1
    · subst e1; exact ⟨⟨[], upd_same, rfl, .nil⟩, a.s.free hp⟩
    · exact x.m q e1
  · rcases List.mem_cons.mp hq with e1 | e1
    · subst e1; exact .inr hp
    · exact x.n q e1
  · obtain ⟨q, hq, e1⟩ := List.mem_map.mp z
    have := (m0 q hq).1.live
    rw [e1] at this
    exact this hp⟩
/-- a list, a dict of this def becomes data -/
theorem dy_iceL {p : Addr} {ds : List PyData} {j : Nat} (hp : p ∉ B) (hm : M.Perm ((p, .l ds) :: M')) (hj : ρ[j]? = some (.rf p)) (r : DY F B M' (ρ.set j (.da (.list ds))) A o) : DY F B M ρ A o := ⟨pss_imp r.pb fun D σ H ⟨H0, Hd0, Hb, Hd, a, k⟩ => by
  have x := a.x.perm hm
  obtain ⟨⟨vs, e1, da⟩, e2⟩ := x.m _ List.mem_cons_self
  have n0 : H0 p = none := by
    rcases x.n _ List.mem_cons_self with q | q
    · exact absurd q hp
    · exact q
  have sd : Same Hd (L2.upd Hd p (.lst vs)) := Same.upd e2
  have hu := List.nodup_cons.mp x.u
  refine ⟨H0, Hd0, Hb, L2.upd Hd p (.lst vs), ⟨⟨⟨x.g.hh, x.g.dd.trans sd, fun b u e => ?_, fun b h1 h2 => ?_⟩, x.lv, fun q hq => ?_, fun q hq => x.n q (List.mem_cons_of_mem _ hq), hu.2⟩, a.l, a.b.trans sd, ?_⟩, k⟩
  · by_cases hb : b = p
    · subst hb; rw [upd_same] at e; cases e; exact e1
    · rw [upd_ne hb] at e; exact x.g.dh _ _ e
  · have hb : b ≠ p := fun z => h1 (by rw [z]; exact n0)
    rw [upd_ne hb]; exact x.g.fr b h1 h2
  · have m1 := x.m q (List.mem_cons_of_mem _ hq)
    refine ⟨m1.1.mono (fun _ z => z) (fun _ _ z => z) sd, ?_⟩
    rw [upd_ne (fun z => hu.1 (List.mem_map.mpr ⟨q, hq, z⟩))]
    exact m1.2
  · obtain ⟨hj1, _⟩ := List.getElem?_eq_some_iff.mp hj
    have es := EnvD.rf a.e hj
    have := EnvD.set (x := some (V.ref p)) (s := .da (.list ds)) j (a.e.mono sd) ⟨_, rfl, .lst (.inl (.inl upd_same)) (da.mono sd)⟩
    have e3 : σ.set j (some (V.ref p)) = σ := by
      obtain ⟨h1, h2⟩ := List.getElem?_eq_some_iff.mp es
      rw [← h2, List.set_getElem_self]
    rw [e3] at this
    exact this⟩
end
end Dv
namespace Dv
open PySem L2 PyProof.Rows
/-! ### defs that change objects -/
abbrev Gm := List Sl → Ms → (Sl → Ms → Prop) → (Addr → Ms → Prop) → Prop
def spM (K : PySem.W.Frag) (g : Gm) : Sp := fun vs H Q E => ∃ Hd M xs R W, Same Hd H ∧ EnvD K Hd (vs.map some) xs ∧ MsOk K M H Hd ∧ (adr M).Nodup ∧ g xs M R W ∧
  (∀ v H' Hd' x M', R x M' → Ex (adr M) H Hd K M' H' Hd' → SlOk K Hd' (some v) x → Q v H') ∧ (∀ C M' H' Hd', W C M' → Ex (adr M) H Hd K M' H' Hd' → E (.ref C) none H')
def rhoS (xs : List Sl) (N : List Str) : List Sl := xs ++ List.replicate (N.length - xs.length) .un
theorem EnvD.startS {K : PySem.W.Frag} {H : Hp} {vs : List V} {xs : List Sl} (h : EnvD K H (vs.map some) xs) (n : Nat) : EnvD K H (vs.map some ++ List.replicate n none) (xs ++ List.replicate n .un) := by
  generalize vs.map some = us at h
  induction h with
  | nil =>
    show EnvD K H (List.replicate n none) (List.replicate n .un)
    induction n with
    | zero => exact .nil
    | succ n ih => exact .cons trivial ih
  | cons a _ ih => exact .cons a ih
section
variable {P : Program} {w : World} {K : PySem.W.Frag} {mg : Str → Option Value} {base : Heap}
theorem fnM {x qual : Str} {st : Stmt} {f : Addr} {fd : FuncData} {N ps : List Str} {k : Nat} {g : Gm} (F : Fun K x qual st f fd) (S : FnScope N ps (defScope st)) (bl : Bl mg) (len : ∀ xs M R W, g xs M R W → xs.length = ps.length)
    (body : ∀ (cdv : Value) (A : Around) (outer : List Env) (s : Shared) (H : Hp) (E : XK) (hu : (A.deeper (envOfC qual (defScope st) s.heap.objs.size f cdv)).units + 128 < cLine), Room k (A.deeper (envOfC qual (defScope st) s.heap.objs.size f cdv)) →
      ∀ xs M R W, g xs M R W → DY (frOf P w K mg base N qual (defScope st) f cdv A outer s H E hu bl S.nd) (adr M) M (rhoS xs N) (defBody st) { nx := fun _ M' => R (.da .none) M', rt := R, er := W }) : FnOk P w K mg base (L2N.CX P w) (k + 1) f fd ps (spM K g) := by
  have ln : ∀ {vs : List V} {xs : List Sl} {Hd : Hp}, EnvD K Hd (vs.map some) xs → vs.length = xs.length := fun e => by have := EnvD.len e; rwa [List.length_map] at this
  refine okN F S (fun vs H Q E ⟨Hd, M, xs, R, W, s0, e, m, u, q, _⟩ => by rw [ln e]; exact len xs M R W q) fun cdv A outer s H vs Q E hr ⟨Hd, M, xs, R, W, s0, e, m, u, q, k1, k2⟩ => ?_
  have hu : (A.deeper (envOfC qual (defScope st) s.heap.objs.size f cdv)).units + 128 < cLine := by have := hr.un; omega
  have hb := body cdv A outer s H E hu hr xs M R W q
  refine ⟨_, hb.pb, H, Hd, Hd, Hd, ⟨.refl s0 m u, fun b hb z => ?_, Same.refl _, ?_⟩, ?_, ?_, ?_, ?_, ?_⟩
  · obtain ⟨e, he, rfl⟩ := List.mem_map.mp hb
    exact (m e he).1.live z
  · show EnvD K Hd (L2.start N vs) (rhoS xs N)
    unfold L2.start rhoS
    rw [ln e]
    exact e.startS _
  · exact fun σ' H' Hd' ρ' M' z x _ _ => k1 .non H' Hd' _ M' z x ⟨_, rfl, .non⟩
  · exact fun σ' H' Hd' ρ' M' z => z.elim
  · exact fun σ' H' Hd' ρ' M' z => z.elim
  · exact fun v H' Hd' x M' z y sl => k1 v H' Hd' x M' z y sl
  · exact fun C M' σ' H' Hd' z y => k2 C M' H' Hd' z y
/-- a def by its name; a method; a class -/
structure PfmM (P : Program) (w : World) (K : PySem.W.Frag) (mg : Str → Option Value) (base : Heap) (x : Str) (k : Nat) (g : Gm) : Prop where
  ex : ∃ f fd ps, mg x = some (.ref f) ∧ PySem.W.keepIn K (.ref f) = true ∧ Binds K fd ps [] ∧ FnOk P w K mg base (L2N.CX P w) k f fd ps (spM K g)
structure MtdM (P : Program) (w : World) (K : PySem.W.Frag) (mg : Str → Option Value) (base : Heap) (C : Addr) (m : Str) (k : Nat) (g : Gm) : Prop where
  ex : ∃ f fd ps, Cls K C ∧ Meth K C m f ∧ Binds K fd ps [] ∧ FnOk P w K mg base (L2N.CX P w) k f fd ps (spM K g)
structure ClsM (P : Program) (w : World) (K : PySem.W.Frag) (mg : Str → Option Value) (base : Heap) (x : Str) (C : Addr) (k : Nat) (g : Gm) : Prop where
  ex : ∃ f fd ps, Mk K C f ∧ mg x = some (.ref C) ∧ Binds K fd ps [] ∧ FnOk P w K mg base (L2N.CX P w) k f fd ps (spM K g)
end
/-- what a call needs: a part of what is held, the def's promise over it -/
def CallOk (g : Gm) (xs : List Sl) (M : Ms) (P : Sl → Ms → Prop) (W : Addr → Ms → Prop) : Prop := ∃ Mc Mr R V, M.Perm (Mc ++ Mr) ∧ g xs Mc R V ∧ (∀ x M', R x M' → P x (M' ++ Mr)) ∧ (∀ C M', V C M' → W C (M' ++ Mr))
section
variable {F : Fr} {M M' : Ms} {ρ : List Sl} {pos p apos : Pos} {e a b c : Expr} {es : List Expr} {x : Sl} {d : PyData} {P : Sl → Ms → Prop} {W : Addr → Ms → Prop} {k : Nat} {g : Gm}
theorem callOk_run {K : PySem.W.Frag} {w : Ow} {xs : List Sl} {vs : List V} {σ : L2.St} {H Hd : Hp} {Q : VK} (c : CallOk g xs M P W) (s : Same Hd H) (m : MsOk K M H Hd) (u : (adr M).Nodup) (e : EnvD K Hd (vs.map some) xs)
    (k1 : ∀ v H' Hd' x M', P x M' → Ex (adr M) H Hd K M' H' Hd' → SlOk K Hd' (some v) x → Q v H') (k2 : ∀ C M' H' Hd', W C M' → Ex (adr M) H Hd K M' H' Hd' → w.W (.ref C) none σ H') : spM K g vs H Q (WE w.W σ) := by
  obtain ⟨Mc, Mr, R, V, hp, hg, h1, h2⟩ := c
  have m1 := m.perm hp
  have u1 : (adr (Mc ++ Mr)).Nodup := (hp.map _).nodup_iff.mp u
  have hm : ∀ x, x ∈ adr (Mc ++ Mr) ↔ x ∈ adr M := fun x => ((hp.map (·.1)).mem_iff).symm
  have bend : ∀ {H' Hd' : Hp} {M' : Ms}, Ex (adr (Mc ++ Mr)) H Hd K M' H' Hd' → Ex (adr M) H Hd K M' H' Hd' := fun x =>
    ⟨⟨fun a o n e => x.g.hh a o (fun z => n ((hm a).mp z)) e, x.g.dd, x.g.dh, x.g.fr⟩, x.lv, x.m, fun e he => (x.n e he).imp (fun z => (hm _).mp z) id, x.u⟩
  have uc : (adr Mc).Nodup := by rw [adr_app] at u1; exact (List.nodup_append.mp u1).1
  exact ⟨Hd, Mc, xs, R, V, s, e, fun q hq => m1 q (List.mem_append_left _ hq), uc, hg, fun v H' Hd' x M' z y sl => k1 v H' Hd' x _ (h1 x M' z) (bend (y.frame m1 u1)) sl, fun C M' H' Hd' z y => k2 C _ H' Hd' (h2 C M' z) (bend (y.frame m1 u1))⟩
theorem ye_call {y : Str} (f : PfmM F.X.prog F.X.w F.X.K F.X.mg F.X.base y k g) (hr : Room k F.X.A) (ha : YA F M ρ (e :: es) (fun xs M1 => CallOk g xs M1 P W) W) (hg : Gl F.X y := by rfl) (hdb : (y == ("__debug__" : Str)) = false := by decide)
    (he : starEach (e :: es) F.X.env = (false, eval e F.X.env) :: starEach es F.X.env := by rfl) (hpl : (backTo pos (starEach es F.X.env)).any (·.1) = false := by rfl) : YE F M ρ (.Call (.Name y p) (e :: es) [] pos) P W := by
  obtain ⟨fa, fd, ps, hm, hk, hb, hf⟩ := f.ex
  obtain ⟨t, pa, i⟩ := ha
  refine ⟨_, L2.pe_callS (E := WE F.o.W) hf hr hg hm hk hb (fun σ => L2N.passAt F.tk σ) pa hdb he hpl, fun σ H Hd Q u at0 k1 k2 => ?_⟩
  refine i σ H Hd _ u at0 (fun vs H1 Hd1 xs M1 z x1 ev => ?_) k2
  exact callOk_run (w := F.o) z x1.s x1.m x1.u ev (fun v H' Hd' x M' z1 y sl => k1 v H' Hd' x M' z1 (x1.trans y) sl) fun C M' H' Hd' z1 y => k2 C M' H' Hd' z1 (x1.trans y)
/-! methods -/
def tMethS (C : Addr) (m : Str) (sp : Sp) (E : L2.St → XK) (ta : TE) (t : TA) : TE := fun σ H Q => ta σ H fun x H1 => ∃ a dx fs, x = .ref a ∧ H1 a = some (.ins C dx fs) ∧ fs.lookup m = none ∧ t σ H1 fun vs H2 => sp (x :: vs) H2 Q (E σ)
theorem pe_methS {X : Cx} {CX : CXT} {o : Expr} {m : Str} {C f : Addr} {fd : FuncData} {ps : List Str} {sp : Sp} {E : L2.St → XK} {ta : TE} {t : TA} {pl : Sem Bool} (he : PE X o ta) (c : Cls X.K C) (hm : Meth X.K C m f) (F : FnOk X.prog X.w X.K X.mg X.base CX k f fd ps sp) (hr : Room k X.A) (hb : Binds X.K fd ps []) (hx : ∀ σ, PassesAt CX X σ (E σ)) (ha : PA X (e :: es) t)
    (hst : starEach (e :: es) X.env = (false, eval e X.env) :: starEach es X.env := by rfl) (hpl : (backTo pos (starEach es X.env)).any (·.1) = false := by rfl)
    (ht : eval (.Call (.Attribute o m apos) (e :: es) [] pos) X.env = (do
      let ov ← eval o X.env
      standAt apos.atName
      let (f, first) ← holding [ov] (getMethod ov m pl)
      callWith pos f first (backTo pos (starEach (e :: es) X.env)) (backToKw pos (keywordEach [] X.env))) := by rfl) :
    PE X (.Call (.Attribute o m apos) (e :: es) [] pos) (tMethS C m sp E ta t) := by
  refine ⟨fun pins s σ H Q I h => ?_⟩
  refine PySem.W.methodCall_KW (pl := pl) (thn (he.run pins s σ H _ I h) fun u s1 ⟨x, H1, I1, rx, a, dx, fs, ex, ea, l, q⟩ => ?_) ht
  subst ex
  obtain rfl : u = Value.ref a := rx
  refine getmeth_ok I1 ea c hm l ?_
  refine PySem.W.callWith_K (first := [.ref a]) (h₀ := X.base) I.ok.mod.kin hm.kp (thn (ha.run pos pins s1 σ H1 _ I1 q) fun us s2 ⟨vs, H2, I2, r, q2⟩ => ⟨I2.kIn, ?_⟩) hst hpl
  exact run_fnS (us := .ref a :: us) (vs := .ref a :: vs) F hr hb (hx σ) I2 (.cons rfl r) q2
theorem pe_methS0 {X : Cx} {CX : CXT} {o : Expr} {m : Str} {C f : Addr} {fd : FuncData} {ps : List Str} {sp : Sp} {E : L2.St → XK} {ta : TE} {pl : Sem Bool} (he : PE X o ta) (c : Cls X.K C) (hm : Meth X.K C m f) (F : FnOk X.prog X.w X.K X.mg X.base CX k f fd ps sp) (hr : Room k X.A) (hb : Binds X.K fd ps []) (hx : ∀ σ, PassesAt CX X σ (E σ))
    (ht : eval (.Call (.Attribute o m apos) [] [] pos) X.env = (do
      let ov ← eval o X.env
      standAt apos.atName
      let (f, first) ← holding [ov] (getMethod ov m pl)
      callWith pos f first (backTo pos (starEach [] X.env)) (backToKw pos (keywordEach [] X.env))) := by rfl) :
    PE X (.Call (.Attribute o m apos) [] [] pos) (tMethS C m sp E ta tNil) := by
  refine ⟨fun pins s σ H Q I h => ?_⟩
  refine PySem.W.methodCall_KW (pl := pl) (thn (he.run pins s σ H _ I h) fun u s1 ⟨x, H1, I1, rx, a, dx, fs, ex, ea, l, q⟩ => ?_) ht
  subst ex
  obtain rfl : u = Value.ref a := rx
  refine getmeth_ok I1 ea c hm l ?_
  exact PySem.W.callWith_K0 (first := [.ref a]) I1.kIn hm.kp (run_fnS (us := [.ref a]) (vs := [.ref a]) F hr hb (hx σ) I1 (.cons rfl .nil) q)
theorem ye_meth {C q : Addr} {m : Str} {fs : List (Str × Sl)} {pl : Sem Bool} (f : MtdM F.X.prog F.X.w F.X.K F.X.mg F.X.base C m k g) (hr : Room k F.X.A) (ho : SE F M ρ a (.rf q)) (hm : (q, .o C fs) ∈ M) (hl : fs.lookup m = none) (ha : YA F M ρ (e :: es) (fun xs M1 => CallOk g (.rf q :: xs) M1 P W) W)
    (hst : starEach (e :: es) F.X.env = (false, eval e F.X.env) :: starEach es F.X.env := by rfl) (hpl : (backTo pos (starEach es F.X.env)).any (·.1) = false := by rfl)
    (ht : eval (.Call (.Attribute a m apos) (e :: es) [] pos) F.X.env = (do
      let ov ← eval a F.X.env
      standAt apos.atName
      let (f, first) ← holding [ov] (getMethod ov m pl)
      callWith pos f first (backTo pos (starEach (e :: es) F.X.env)) (backToKw pos (keywordEach [] F.X.env))) := by rfl) : YE F M ρ (.Call (.Attribute a m apos) (e :: es) [] pos) P W := by
  obtain ⟨fa, fd, ps, hc, hme, hb, hf⟩ := f.ex
  obtain ⟨t1, p1, i1⟩ := ho
  obtain ⟨t, pa, i⟩ := ha
  refine ⟨_, pe_methS (pl := pl) (E := WE F.o.W) p1 hc hme hf hr hb (fun σ => L2N.passAt F.tk σ) pa hst hpl ht, fun σ H Hd Q u at0 k1 k2 => i1 σ H Hd _ at0 fun v H1 Hd1 g1 sl => ?_⟩
  have sl : some v = some (V.ref q) := sl
  cases sl
  have x0 : Ex (adr M) H Hd F.X.K M H1 Hd1 := .grw at0.p u g1
  obtain ⟨⟨dx, vs0, e1, ff⟩, _⟩ := x0.m _ hm
  refine ⟨q, dx, vs0, rfl, e1, ff.none hl, i σ H1 Hd1 _ u (at0.go g1) (fun vs H2 Hd2 xs M1 z x1 ev => ?_) fun C M' H' Hd' z y => k2 C M' H' Hd' z (x0.trans y)⟩
  have x2 := x0.trans x1
  exact callOk_run (w := F.o) z x2.s x2.m x2.u (.cons rfl ev) (fun v H' Hd' x M' z1 y sl => k1 v H' Hd' x M' z1 (x2.trans y) sl) fun C M' H' Hd' z1 y => k2 C M' H' Hd' z1 (x2.trans y)
theorem ye_meth0 {C q : Addr} {m : Str} {fs : List (Str × Sl)} {pl : Sem Bool} (f : MtdM F.X.prog F.X.w F.X.K F.X.mg F.X.base C m k g) (hr : Room k F.X.A) (ho : SE F M ρ a (.rf q)) (hm : (q, .o C fs) ∈ M) (hl : fs.lookup m = none) (hg : CallOk g [.rf q] M P W)
    (ht : eval (.Call (.Attribute a m apos) [] [] pos) F.X.env = (do
      let ov ← eval a F.X.env
      standAt apos.atName
      let (f, first) ← holding [ov] (getMethod ov m pl)
      callWith pos f first (backTo pos (starEach [] F.X.env)) (backToKw pos (keywordEach [] F.X.env))) := by rfl) : YE F M ρ (.Call (.Attribute a m apos) [] [] pos) P W := by
  obtain ⟨fa, fd, ps, hc, hme, hb, hf⟩ := f.ex
  obtain ⟨t1, p1, i1⟩ := ho
  refine ⟨_, pe_methS0 (pl := pl) (E := WE F.o.W) p1 hc hme hf hr hb (fun σ => L2N.passAt F.tk σ) ht, fun σ H Hd Q u at0 k1 k2 => i1 σ H Hd _ at0 fun v H1 Hd1 g1 sl => ?_⟩
  have sl : some v = some (V.ref q) := sl
  cases sl
  have x0 : Ex (adr M) H Hd F.X.K M H1 Hd1 := .grw at0.p u g1
  obtain ⟨⟨dx, vs0, e1, ff⟩, _⟩ := x0.m _ hm
  exact ⟨q, dx, vs0, rfl, e1, ff.none hl, callOk_run (w := F.o) (vs := [.ref q]) hg x0.s x0.m x0.u (.cons rfl .nil) (fun v H' Hd' x M' z1 y sl => k1 v H' Hd' x M' z1 (x0.trans y) sl) fun C M' H' Hd' z1 y => k2 C M' H' Hd' z1 (x0.trans y)⟩
/-! classes -/
theorem run_makeS {X : Cx} {CX : CXT} {C f : Addr} {fd : FuncData} {ps : List Str} {sp : Sp} {E : L2.St → XK} {pins : List (Addr × Obj)} {σ : L2.St} {H : Hp} {s : Shared} {Q : VK} {us : List Value} {vs : List V} (M : Mk X.K C f) (F : FnOk X.prog X.w X.K X.mg X.base CX k f fd ps sp) (hr : Room (k + 1) X.A) (hb : Binds X.K fd ps [])
    (hx : PassesAt CX X σ (E σ)) (I : Inv X pins σ H s) (r : Vals vs us)
    (h : ∀ x dx, H x = none → H dx = none → dx ≠ x → sp (.ref x :: vs) (L2.upd (L2.upd H dx (.own x)) x (.ins C dx [])) (fun v H2 => v = .non ∧ Q (.ref x) H2) (E σ)) :
    wpAny (model X.prog X.w) X.A (call (.ref C) us) (EP X pins σ Q) X.xe s := by
  have hq := h (s.heap.objs.size + 1) s.heap.objs.size (I.hok.fresh (Nat.le_succ _)) (I.hok.fresh (Nat.le_refl _)) (Nat.ne_of_lt (Nat.lt_succ_self _))
  have I2 := Inv.made (C := C) I
  have r2 : Vals (V.ref (s.heap.objs.size + 1) :: vs) (Value.ref (s.heap.objs.size + 1) :: us) := .cons rfl r
  have hl : (Value.ref (s.heap.objs.size + 1) :: us ++ []).length = ps.length := by
    have e := r2.length
    rw [F.len _ _ _ _ hq] at e
    rw [List.append_nil]
    exact e.symm
  have b := hb _ (Value.ref (s.heap.objs.size + 1) :: us) I2.kIn hl
  rw [List.append_nil] at b
  refine wpAny_call (make_map (f := f) I.kIn M.makes M.init (beq_iff_eq.mp M.fn) (codeAny_mono (F.run _ X.stack _ _ ⟨Value.ref (s.heap.objs.size + 1) :: us, []⟩ (Value.ref (s.heap.objs.size + 1) :: us) _ _ (E σ) (hr.make C us [])
    (I2.env0.make C us []) b r2 hq) fun r s' hq' => ?_))
  cases r with
  | error e => exact hx pins _ _ e s' I2 hq'
  | ok fl =>
    cases fl with
    | ret u =>
      obtain ⟨v, H', I3, rv, ev, q3⟩ := I2.after hq'
      subst ev
      exact ⟨rv, ⟨V.ref (s.heap.objs.size + 1), H', I3, rfl, q3⟩⟩
    | next => exact False.elim hq'
    | brk => exact False.elim hq'
    | cont => exact False.elim hq'
def tMakeS (C : Addr) (sp : Sp) (E : L2.St → XK) (t : TA) : TE := fun σ H Q => t σ H fun vs H1 => ∀ x dx, H1 x = none → H1 dx = none → dx ≠ x → sp (.ref x :: vs) (L2.upd (L2.upd H1 dx (.own x)) x (.ins C dx [])) (fun v H2 => v = .non ∧ Q (.ref x) H2) (E σ)
theorem pe_makeS {X : Cx} {CX : CXT} {y : Str} {C f : Addr} {fd : FuncData} {ps : List Str} {sp : Sp} {E : L2.St → XK} {t : TA} (M : Mk X.K C f) (F : FnOk X.prog X.w X.K X.mg X.base CX k f fd ps sp) (hr : Room (k + 1) X.A) (hg : Gl X y) (hm : X.mg y = some (.ref C)) (hb : Binds X.K fd ps []) (hx : ∀ σ, PassesAt CX X σ (E σ))
    (ha : PA X (e :: es) t) (hdb : (y == ("__debug__" : Str)) = false := by decide) (he : starEach (e :: es) X.env = (false, eval e X.env) :: starEach es X.env := by rfl) (hpl : (backTo pos (starEach es X.env)).any (·.1) = false := by rfl) :
    PE X (.Call (.Name y p) (e :: es) [] pos) (tMakeS C sp E t) := by
  refine ⟨fun pins s σ H Q I h => ?_⟩
  refine wpAny_Call_Name_kw (ld_glob I hg hm ?_ hdb)
  refine PySem.W.callWith_K (h₀ := X.base) I.ok.mod.kin M.kp (thn (ha.run pos pins s σ H _ I h) fun us s1 ⟨vs, H1, I1, r, q⟩ => ⟨I1.kIn, ?_⟩) he hpl
  exact run_makeS M F hr hb (hx σ) I1 r q
theorem pe_makeS0 {X : Cx} {CX : CXT} {y : Str} {C f : Addr} {fd : FuncData} {ps : List Str} {sp : Sp} {E : L2.St → XK} (M : Mk X.K C f) (F : FnOk X.prog X.w X.K X.mg X.base CX k f fd ps sp) (hr : Room (k + 1) X.A) (hg : Gl X y) (hm : X.mg y = some (.ref C)) (hb : Binds X.K fd ps []) (hx : ∀ σ, PassesAt CX X σ (E σ))
    (hdb : (y == ("__debug__" : Str)) = false := by decide) : PE X (.Call (.Name y p) [] [] pos) (tMakeS C sp E tNil) := by
  refine ⟨fun pins s σ H Q I h => ?_⟩
  refine wpAny_Call_Name_kw (ld_glob I hg hm ?_ hdb)
  exact PySem.W.callWith_K0 I.kIn M.kp (run_makeS (us := []) M F hr hb (hx σ) I .nil h)
/-- a new object, empty; then __init__ over it -/
theorem make_run {K : PySem.W.Frag} {w : Ow} {C : Addr} {xs : List Sl} {vs : List V} {σ : L2.St} {H Hd : Hp} {Q : VK} (c : ∀ p, CallOk g (.rf p :: xs) ((p, .o C []) :: M) (fun x M' => x = .da .none ∧ P (.rf p) M') W) (s : Same Hd H) (m : MsOk K M H Hd) (u : (adr M).Nodup) (e : EnvD K Hd (vs.map some) xs)
    (k1 : ∀ v H' Hd' x M', P x M' → Ex (adr M) H Hd K M' H' Hd' → SlOk K Hd' (some v) x → Q v H') (k2 : ∀ C M' H' Hd', W C M' → Ex (adr M) H Hd K M' H' Hd' → w.W (.ref C) none σ H') :
    ∀ x dx, H x = none → H dx = none → dx ≠ x → spM K g (.ref x :: vs) (L2.upd (L2.upd H dx (.own x)) x (.ins C dx [])) (fun v H2 => v = .non ∧ Q (.ref x) H2) (WE w.W σ) := by
  intro x dx hx hdx hne
  have g1 : Grw H Hd (L2.upd H dx (.own x)) Hd := .junk s hdx
  have hx' : L2.upd H dx (.own x) x = none := by rw [upd_ne (fun z => hne z.symm)]; exact hx
  have g2 : Grw (L2.upd H dx (.own x)) Hd (L2.upd (L2.upd H dx (.own x)) x (.ins C dx [])) Hd := .junk g1.dh hx'
  have gg := g1.trans g2
  have m2 := m.go gg
  have nx : x ∉ adr M := fun z => by
    obtain ⟨q, hq, e1⟩ := List.mem_map.mp z
    have := (m q hq).1.live
    rw [e1] at this
    exact this hx
  have m3 : MsOk K ((x, .o C []) :: M) (L2.upd (L2.upd H dx (.own x)) x (.ins C dx [])) Hd := fun q hq => by
    rcases List.mem_cons.mp hq with e1 | e1
    · subst e1; exact ⟨⟨dx, [], upd_same, .nil⟩, s.free hx⟩
    · exact m2 q e1
  have u3 : (adr ((x, OO.o C []) :: M)).Nodup := List.nodup_cons.mpr ⟨nx, u⟩
  have bend : ∀ {H' Hd' : Hp} {M' : Ms}, Ex (adr ((x, OO.o C []) :: M)) (L2.upd (L2.upd H dx (.own x)) x (.ins C dx [])) Hd K M' H' Hd' → Ex (adr M) H Hd K M' H' Hd' := fun y =>
    ⟨⟨fun a o n e => y.g.hh a o (fun z => by
        rcases List.mem_cons.mp z with q | q
        · subst q; rw [show H _ = none from hx] at e; cases e
        · exact n q) (gg.hh a o e), y.g.dd, y.g.dh, fun a h1 h2 => y.g.fr a (Same.ne gg.hh h1) h2⟩, fun a h => y.lv a (Same.ne gg.hh h), y.m, fun q hq => by
      rcases y.n q hq with z | z
      · rcases List.mem_cons.mp z with w | w
        · refine .inr ?_
          have w : q.1 = x := w
          rw [w]; exact hx
        · exact .inl w
      · refine .inr (Classical.byContradiction fun h => ?_)
        exact Same.ne gg.hh h z, y.u⟩
  refine callOk_run (w := w) (c x) gg.dh m3 u3 (.cons rfl e) (fun v H' Hd' y M' z ex sl => ?_) fun C M' H' Hd' z ex => k2 C M' H' Hd' z (bend ex)
  obtain ⟨rfl, z⟩ := z
  obtain ⟨v', e1, dv⟩ := sl
  cases e1
  cases dv
  exact ⟨rfl, k1 _ H' Hd' _ M' z (bend ex) rfl⟩
theorem ye_make {y : Str} {C : Addr} (f : ClsM F.X.prog F.X.w F.X.K F.X.mg F.X.base y C k g) (hr : Room (k + 1) F.X.A) (ha : YA F M ρ (e :: es) (fun xs M1 => ∀ p, CallOk g (.rf p :: xs) ((p, .o C []) :: M1) (fun x M' => x = .da .none ∧ P (.rf p) M') W) W) (hg : Gl F.X y := by rfl) (hdb : (y == ("__debug__" : Str)) = false := by decide)
    (he : starEach (e :: es) F.X.env = (false, eval e F.X.env) :: starEach es F.X.env := by rfl) (hpl : (backTo pos (starEach es F.X.env)).any (·.1) = false := by rfl) : YE F M ρ (.Call (.Name y p) (e :: es) [] pos) P W := by
  obtain ⟨fa, fd, ps, hmk, hm, hb, hf⟩ := f.ex
  obtain ⟨t, pa, i⟩ := ha
  refine ⟨_, pe_makeS (E := WE F.o.W) hmk hf hr hg hm hb (fun σ => L2N.passAt F.tk σ) pa hdb he hpl, fun σ H Hd Q u at0 k1 k2 => ?_⟩
  refine i σ H Hd _ u at0 (fun vs H1 Hd1 xs M1 z x1 ev => ?_) k2
  exact make_run (w := F.o) z x1.s x1.m x1.u ev (fun v H' Hd' x M' z1 y sl => k1 v H' Hd' x M' z1 (x1.trans y) sl) fun C M' H' Hd' z1 y => k2 C M' H' Hd' z1 (x1.trans y)
theorem ye_make0 {y : Str} {C : Addr} (f : ClsM F.X.prog F.X.w F.X.K F.X.mg F.X.base y C k g) (hr : Room (k + 1) F.X.A) (hc : ∀ p, CallOk g [.rf p] ((p, .o C []) :: M) (fun x M' => x = .da .none ∧ P (.rf p) M') W) (hg : Gl F.X y := by rfl) (hdb : (y == ("__debug__" : Str)) = false := by decide) : YE F M ρ (.Call (.Name y p) [] [] pos) P W := by
  obtain ⟨fa, fd, ps, hmk, hm, hb, hf⟩ := f.ex
  refine ⟨_, pe_makeS0 (E := WE F.o.W) hmk hf hr hg hm hb (fun σ => L2N.passAt F.tk σ) hdb, fun σ H Hd Q u at0 k1 k2 => ?_⟩
  exact make_run (w := F.o) (vs := []) hc at0.s at0.p u .nil k1 k2
end
end Dv
namespace Dv
open PySem L2 PyProof.Rows
/-! ### one object exchanged for another, in its place -/
inductive PutO : Ms → Addr → OO → OO → Ms → Prop
  | here {M : Ms} {p : Addr} {m m' : OO} : PutO ((p, m) :: M) p m m' ((p, m') :: M)
  | there {M M' : Ms} {p : Addr} {m m' : OO} {e : Addr × OO} : PutO M p m m' M' → PutO (e :: M) p m m' (e :: M')
section
variable {K : PySem.W.Frag} {M M' : Ms} {p : Addr} {m m' : OO}
theorem PutO.mem (h : PutO M p m m' M') : (p, m) ∈ M := by
  induction h with
  | here => exact List.mem_cons_self
  | there _ ih => exact List.mem_cons_of_mem _ ih
theorem PutO.adr (h : PutO M p m m' M') : adr M' = adr M := by
  induction h with
  | here => rfl
  | there _ ih => show _ :: Dv.adr _ = _ :: Dv.adr _; rw [ih]
theorem PutO.ok (h : PutO M p m m' M') {H Hd H' : Hp} (nd : (Dv.adr M).Nodup) (ok : MsOk K M H Hd) (off : ∀ a o, a ≠ p → H a = some o → H' a = some o) (hm : OOk K H' Hd p m') : MsOk K M' H' Hd := by
  revert hm off
  induction h with
  | here =>
    intro off hm e he
    rcases List.mem_cons.mp he with q | q
    · subst q; exact ⟨hm, (ok _ List.mem_cons_self).2⟩
    · have k := ok e (List.mem_cons_of_mem _ q)
      refine ⟨k.1.mono (fun o z => off _ o (fun w => ?_) z) (fun b f z => off _ _ (fun w => by subst w; exact (ok _ List.mem_cons_self).1.noext z) z) (Same.refl _), k.2⟩
      exact (List.nodup_cons.mp nd).1 (List.mem_map.mpr ⟨e, q, w⟩)
  | @there M M' p m m' e0 h0 ih =>
    intro off hm e he
    rcases List.mem_cons.mp he with q | q
    · subst q
      have k := ok _ List.mem_cons_self
      refine ⟨k.1.mono (fun o z => off _ o (fun w => ?_) z) (fun b f z => off _ _ (fun w => by subst w; exact (ok _ (List.mem_cons_of_mem _ h0.mem)).1.noext z) z) (Same.refl _), k.2⟩
      exact (List.nodup_cons.mp nd).1 (List.mem_map.mpr ⟨_, h0.mem, w.symm⟩)
    · exact ih (List.nodup_cons.mp nd).2 (fun e z => ok e (List.mem_cons_of_mem _ z)) off hm e q
theorem PutO.ex (h : PutO M p m m' M') {A : List Addr} {H0 Hd0 H Hd : Hp} {ho : HO} (x : Ex A H0 Hd0 K M H Hd) (hm : OOk K (L2.upd H p ho) Hd p m') : Ex A H0 Hd0 K M' (L2.upd H p ho) Hd := by
  have e2 := (x.m _ h.mem).2
  have hp := x.n _ h.mem
  refine ⟨⟨fun a o n e => ?_, x.g.dd, fun b u e => ?_, x.g.fr⟩, fun a z => upd_live a (x.lv a z), h.ok x.u x.m (fun a o n e => by rw [upd_ne n]; exact e) hm, fun e he => ?_, by rw [h.adr]; exact x.u⟩
  · have hb : a ≠ p := fun z => by
      subst z
      rcases hp with q | q
      · exact n q
      · rw [show H0 a = none from q] at e; cases e
    rw [upd_ne hb]; exact x.g.hh a o n e
  · have hb : b ≠ p := fun z => by rw [z, show Hd p = none from e2] at e; cases e
    rw [upd_ne hb]; exact x.g.dh _ _ e
  · have : e.1 ∈ Dv.adr M' := List.mem_map.mpr ⟨e, he, rfl⟩
    rw [h.adr] at this
    exact x.off this
theorem FsOk.put {H : Hp} {vs : List (Str × V)} {fs : List (Str × Sl)} {f : Str} {v : V} {x : Sl} (h : FsOk K H vs fs) (s : SlOk K H (some v) x) : FsOk K H (L2.putF f v vs) (putFS f x fs) := by
  induction h with
  | nil => exact .cons s .nil
  | @cons n w y vs fs a b ih =>
    show FsOk K H (if n = f then (n, v) :: vs else (n, w) :: L2.putF f v vs) (if n = f then (f, x) :: fs else (n, y) :: putFS f x fs)
    by_cases e : n = f
    · rw [if_pos e, if_pos e]
      subst e
      exact .cons s b
    · rw [if_neg e, if_neg e]
      exact .cons a ih
end
theorem pe_uE {X : Cx} {e : Expr} : PE X e (uE X e) := pe_u
section
variable {F : Fr} {B : List Addr} {M M' : Ms} {ρ ρ' : List Sl} {pos p apos tp : Pos} {e a b c v : Expr} {es : List Expr} {rest A A2 : List Stmt} {x : Sl} {d : PyData} {P : Sl → Ms → Prop} {W : Addr → Ms → Prop} {o : YO}
/-! ### fields -/
theorem se_fld {q C : Addr} {fs : List (Str × Sl)} {f : Str} (ho : SE F M ρ a (.rf q)) (hm : (q, .o C fs) ∈ M) (c : Cls F.X.K C) (n : NoAttr F.X.K C f) (hl : fs.lookup f = some x) (hb : attributeBase a f F.X.env (eval a F.X.env) = eval a F.X.env := by rfl) : SE F M ρ (.Attribute a f pos) x := by
  obtain ⟨t, pe, i⟩ := ho
  refine ⟨_, pe_fld pe hb, fun σ H Hd Q at0 k => i σ H Hd _ at0 fun v H1 Hd1 g1 sl => ?_⟩
  have sl : some v = some (V.ref q) := sl
  cases sl
  obtain ⟨⟨dx, vs, e1, ff⟩, _⟩ := (show MsOk F.X.K M H Hd from at0.p).go g1 _ hm
  obtain ⟨w, ew, sw⟩ := ff.get hl
  exact ⟨q, C, dx, vs, w, rfl, e1, c, n, ew, k w H1 Hd1 g1 sw⟩
/-- a.f = e -/
theorem dy_fld {f : Str} (h : YE F M ρ e (fun x M1 => ∃ q C fs M2, SE F M1 ρ a (.rf q) ∧ PutO M1 q (.o C fs) (.o C (putFS f x fs)) M2 ∧ Cls F.X.K C ∧ NoAttr F.X.K C f ∧ fs.length < 1000 ∧ DY F B M2 ρ rest o) o.er)
    (hs : swapsWith e (some (.Attribute a f tp)) pos.line F.X.env = pure false := by rfl) : DY F B M ρ (.Assign [.Attribute a f tp] e pos :: rest) o := by
  obtain ⟨t, pe, i⟩ := h
  refine dy_step (ps_fld pe_uE pe hs) fun D σ H ⟨H0, Hd0, Hb, Hd, a0, k⟩ => i σ H Hd _ a0.x.u a0.at (fun y H1 Hd1 x M1 z x1 s1 => ?_) fun C M1 H1 Hd1 z x1 => k.er C M1 σ H1 Hd1 z (a0.x.trans x1)
  obtain ⟨q, C, fs, M2, ⟨ta, pa, ia⟩, hp, c, n, hl, r⟩ := z
  have a1 := a0.go x1 (a0.e.mono x1.g.dd)
  refine ⟨ta, pa, ia σ H1 Hd1 _ a1.at fun w H2 Hd2 g2 sl => ?_⟩
  have sl : some w = some (V.ref q) := sl
  cases sl
  have a2 := a1.goG g2 (a1.e.mono g2.dd)
  obtain ⟨⟨dx, vs, e1, ff⟩, _⟩ := a2.x.m _ hp.mem
  refine ⟨q, C, dx, vs, rfl, e1, c, n, by rw [ff.len]; exact hl, ?_⟩
  exact ⟨_, r.pb, H0, Hd0, Hb, Hd2, ⟨hp.ex a2.x ⟨dx, _, upd_same, ff.put (s1.mono g2.dd)⟩, a2.l, a2.b, a2.e⟩, k⟩
/-! ### lists -/
theorem se_ixL {q : Addr} {ds : List PyData} {i : Int} (ho : SE F M ρ a (.rf q)) (hm : (q, .l ds) ∈ M) (hx : DE (F.ms M) ρ b (.ok (.int i))) (h : atI ds i = some d) (hs : PlainIx b := by intro _ _; rfl) : SE F M ρ (.Subscript a b pos) (.da d) := by
  obtain ⟨t, pe, i1⟩ := ho
  refine ⟨_, pe_ix ix_list pe hx.pe hs, fun σ H Hd Q at0 k => i1 σ H Hd _ at0 fun v H1 Hd1 g1 sl => tE_ok (at0.go g1) fun u H2 Hd2 g2 d2 => ?_⟩
  have sl : some v = some (V.ref q) := sl
  cases sl
  cases d2
  obtain ⟨⟨vs, e1, da⟩, _⟩ := (show MsOk F.X.K M H Hd from at0.p).go (g1.trans g2) _ hm
  obtain ⟨w, e, dv⟩ := atI_dt da h
  exact ⟨q, vs, i, w, rfl, rfl, .inl (.inl e1), e, k _ H2 Hd2 (g1.trans g2) ⟨_, rfl, dv⟩⟩
/-- of a list of objects -/
theorem se_ixR {q r : Addr} {ps : List Addr} {i : Int} (ho : SE F M ρ a (.rf q)) (hm : (q, .rl ps) ∈ M) (hx : DE (F.ms M) ρ b (.ok (.int i))) (h : atI ps i = some r) (hs : PlainIx b := by intro _ _; rfl) : SE F M ρ (.Subscript a b pos) (.rf r) := by
  obtain ⟨t, pe, i1⟩ := ho
  refine ⟨_, pe_ix ix_list pe hx.pe hs, fun σ H Hd Q at0 k => i1 σ H Hd _ at0 fun v H1 Hd1 g1 sl => tE_ok (at0.go g1) fun u H2 Hd2 g2 d2 => ?_⟩
  have sl : some v = some (V.ref q) := sl
  cases sl
  cases d2
  obtain ⟨e1, _⟩ := (show MsOk F.X.K M H Hd from at0.p).go (g1.trans g2) _ hm
  have e1 : H2 q = some (.lst (ps.map .ref)) := e1
  have e : atI (ps.map V.ref) i = some (V.ref r) := by
    unfold atI at h ⊢
    rw [List.length_map]
    cases ej : ixN ps.length i with
    | none => rw [ej] at h; cases h
    | some j =>
      rw [ej] at h
      show (ps.map V.ref)[j]? = _
      rw [List.getElem?_map, show ps[j]? = some r from h]
      rfl
  exact ⟨q, _, i, _, rfl, rfl, .inl (.inl e1), e, k _ H2 Hd2 (g1.trans g2) rfl⟩
theorem pe_se {x : Sl} (h : SE F M ρ a x) : PE F.X a (fun σ H Q => ∃ Hd, At F.X.K (F.ms M).o ρ σ H Hd ∧ ∀ v H' Hd', Grw H Hd H' Hd' → SlOk F.X.K Hd' (some v) x → Q v H') := by
  obtain ⟨t, pe, i⟩ := h
  exact pe_imp pe fun σ H Q ⟨Hd, a0, k⟩ => i σ H Hd Q a0 k
theorem de_lenR {q : Addr} {ds : List PyData} {p2 : Pos} (ho : SE F M ρ a (.rf q)) (hm : (q, .l ds) ∈ M)
    (hg : Gl F.X "len" := by rfl) (he : starEach [a] F.X.env = (false, eval a F.X.env) :: starEach [] F.X.env := by rfl) (hpl : (backTo pos (starEach [] F.X.env)).any (·.1) = false := by rfl) : DE (F.ms M) ρ (.Call (.Name "len" p2) [a] [] pos) (.ok (.int ds.length)) :=
  ⟨pe_imp (pe_callB call_len_seq hg F.bl.len PySem.boot_len (pa_cons (pe_se ho) pa_nil he) (he := he) (hpl := hpl)) fun σ H Q ⟨Hd, a, k⟩ => ⟨Hd, a, fun v H1 Hd1 g1 sl => by
    have sl : some v = some (V.ref q) := sl
    cases sl
    obtain ⟨⟨vs, e1, da⟩, _⟩ := (show MsOk F.X.K M H Hd from a.p).go g1 _ hm
    exact ⟨q, vs, rfl, .inl (.inl (.inl e1)), k _ H1 Hd1 g1 (by rw [da.len]; exact .int _)⟩⟩⟩
/-- a.append(e) -/
theorem ye_app {q : Addr} {ds0 : List PyData} (ha : SE F M ρ a (.rf q)) (h0 : (q, OO.l ds0) ∈ M) (he : YE F M ρ e (fun x M1 => ∃ d ds M2, x = .da d ∧ PutO M1 q (.l ds) (.l (ds ++ [d])) M2 ∧ ds.length < sizeLine ∧ P (.da .none) M2) W)
    (hbase : attributeBase a "append" F.X.env (eval a F.X.env) = eval a F.X.env := by rfl)
    (hfew : ((backTo pos (starEach [e] F.X.env)).all (fun x => !x.1) && (backToKw pos (keywordEach [] F.X.env)).all (fun x => x.1.isSome) && decide (([e] : List Expr).length + ([] : List Keyword).length + (if ([] : List Keyword).isEmpty then 0 else 1) < 30)) = true := by rfl)
    (hline : (apos.endLine == pos.line) = true := by rfl) (hs : starEach [e] F.X.env = (false, eval e F.X.env) :: starEach [] F.X.env := by rfl) (hplain : (backTo pos (starEach [] F.X.env)).any (·.1) = false := by rfl) : YE F M ρ (.Call (.Attribute a "append" apos) [e] [] pos) P W := by
  obtain ⟨t, pe, i⟩ := he
  refine ⟨_, pe_bm PySem.F.plainAttrs_list PySem.F.slot_list_append PySem.F.type_list_append mt_append (pe_se ha) (pa_cons pe pa_nil hs) hbase hfew hline hs hplain, fun σ H Hd Q u a0 k1 k2 => ⟨Hd, a0, fun w H1 Hd1 g1 sl => ?_⟩⟩
  have sl : some w = some (V.ref q) := sl
  cases sl
  have x1 : Ex (adr M) H Hd F.X.K M H1 Hd1 := .grw a0.p u g1
  obtain ⟨⟨vs0, e0, _⟩, _⟩ := x1.m _ h0
  refine ⟨.inl ⟨rfl, vs0, .inl (.inl e0)⟩, i σ H1 Hd1 _ u (a0.go g1) (fun v H2 Hd2 x M1 z x2 sv => ?_) fun C M1 H2 Hd2 z x2 => k2 C M1 H2 Hd2 z (x1.trans x2)⟩
  obtain ⟨d, ds, M2, rfl, hp, hz, r⟩ := z
  obtain ⟨v', ev, dv⟩ := sv
  cases ev
  have x3 := x1.trans x2
  obtain ⟨⟨vs, e1, da⟩, e2⟩ := x3.m _ hp.mem
  exact ⟨q, vs, v, rfl, rfl, e1, by rw [da.len]; exact hz, k1 .non _ Hd2 _ M2 r (hp.ex x3 ⟨_, upd_same, da.snoc dv⟩) ⟨_, rfl, .non⟩⟩
/-- a[b] = v, a list -/
theorem dy_setL {q : Addr} {ds : List PyData} {i : Int} {j : Nat} (hv : DE (F.ms M) ρ v (.ok d)) (ha : SE F M ρ a (.rf q)) (hx : DE (F.ms M) ρ b (.ok (.int i))) (hp : PutO M q (.l ds) (.l (ds.set j d)) M') (h : ixN ds.length i = some j) (r : DY F B M' ρ rest o)
    (hb : ∀ v, assign (.Subscript a b tp) F.X.env v = (do
      let ov ← holding [v] (eval a F.X.env)
      let iv ← holding [v, ov] (eval b F.X.env)
      standAt tp
      holding [v, ov, iv] (setItem ov iv v)
      release [v, ov, iv] []) := by intro _; rfl)
    (hs : swapsWithSole [.Subscript a b tp] v pos.line F.X.env = pure false := by rfl) (hw : swappedStores [.Subscript a b tp] v F.X.env = pure none := by rfl) (h1 : (assignEach [.Subscript a b tp] F.X.env).map (·.2) = [assign (.Subscript a b tp) F.X.env] := by rfl) : DY F B M ρ (.Assign [.Subscript a b tp] v pos :: rest) o :=
  dy_step (ps_asg hv.pe (pg_sub (pe_se ha) hx.pe set_list hb) hs hw h1) fun D σ H ⟨H0, Hd0, Hb, Hd, a0, k⟩ => ⟨Hd, a0.at, fun y H1 Hd1 g1 dv => by
    have a1 := a0.goG g1 (a0.e.mono g1.dd)
    refine ⟨Hd1, a1.at, fun w H2 Hd2 g2 sl => ?_⟩
    have sl : some w = some (V.ref q) := sl
    cases sl
    have a2 := a1.goG g2 (a1.e.mono g2.dd)
    refine ⟨Hd2, a2.at, fun u H3 Hd3 g3 d3 => ?_⟩
    cases d3
    have a3 := a2.goG g3 (a2.e.mono g3.dd)
    obtain ⟨⟨vs, e1, da⟩, e2⟩ := a3.x.m _ hp.mem
    exact ⟨q, vs, i, j, rfl, rfl, e1, by rw [da.len]; exact h, ⟨_, r.pb, H0, Hd0, Hb, Hd3, ⟨hp.ex a3.x ⟨_, upd_same, da.setAt ((dv.mono g2.dd).mono g3.dd) j⟩, a3.l, a3.b, a3.e⟩, k⟩⟩⟩
/-! ### dicts -/
theorem dt_inS {q : Addr} {kvs : List (Key × PyData)} {i : Int} (hx : DE (F.ms M) ρ e (.ok (.int i))) (ha : SE F M ρ a (.rf q)) (hm : (q, OO.d kvs) ∈ M) (h1 : behindInMarks .In a = false := by rfl) : DT (F.ms M) ρ (.Compare e [.In] [a] pos) (valD kvs (Sum.inl i : Key)).isSome :=
  ⟨pt_imp (pt_cmp (pc_din (hu_le (Fr.hu F)) hx.pe (pe_se ha)) h1) fun σ H Q ⟨Hd, a0, k⟩ => tE_ok a0 fun u H1 Hd1 g1 d1 => ⟨Hd1, a0.go g1, fun w H2 Hd2 g2 sl => by
    cases d1
    have sl : some w = some (V.ref q) := sl
    cases sl
    obtain ⟨⟨us, e1, ek, da⟩, _⟩ := (show MsOk F.X.K M H Hd from a0.p).go (g1.trans g2) _ hm
    refine ⟨q, _, rfl, DGet.k (k := (Sum.inl i : Key)) e1, _, rfl, ?_⟩
    rw [(valV_map (Sum.inl i : Key) ek da).1]
    exact k H2 Hd2 (g1.trans g2)⟩⟩
theorem dt_ninS {q : Addr} {kvs : List (Key × PyData)} {i : Int} (hx : DE (F.ms M) ρ e (.ok (.int i))) (ha : SE F M ρ a (.rf q)) (hm : (q, OO.d kvs) ∈ M) (h1 : behindInMarks .NotIn a = false := by rfl) : DT (F.ms M) ρ (.Compare e [.NotIn] [a] pos) (!(valD kvs (Sum.inl i : Key)).isSome) :=
  ⟨pt_imp (pt_cmp (pc_dnotin (hu_le (Fr.hu F)) hx.pe (pe_se ha)) h1) fun σ H Q ⟨Hd, a0, k⟩ => tE_ok a0 fun u H1 Hd1 g1 d1 => ⟨Hd1, a0.go g1, fun w H2 Hd2 g2 sl => by
    cases d1
    have sl : some w = some (V.ref q) := sl
    cases sl
    obtain ⟨⟨us, e1, ek, da⟩, _⟩ := (show MsOk F.X.K M H Hd from a0.p).go (g1.trans g2) _ hm
    refine ⟨q, _, rfl, DGet.k (k := (Sum.inl i : Key)) e1, _, rfl, ?_⟩
    rw [(valV_map (Sum.inl i : Key) ek da).1]
    exact k H2 Hd2 (g1.trans g2)⟩⟩
theorem se_getD {q : Addr} {kvs : List (Key × PyData)} {i : Int} (ha : SE F M ρ a (.rf q)) (hm : (q, OO.d kvs) ∈ M) (hx : DE (F.ms M) ρ e (.ok (.int i))) (hg : valD kvs (Sum.inl i : Key) = some d) (hs : NoSl e := by intro _ _; rfl) : SE F M ρ (.Subscript a e pos) (.da d) := by
  obtain ⟨t, pe, i1⟩ := ha
  refine ⟨_, pe_dget (hu_le (Fr.hu F)) pe hx.pe hs, fun σ H Hd Q a0 k => i1 σ H Hd _ a0 fun w H1 Hd1 g1 sl => tE_ok (a0.go g1) fun u H2 Hd2 g2 d2 => ?_⟩
  have sl : some w = some (V.ref q) := sl
  cases sl
  cases d2
  obtain ⟨⟨us, e1, ek, da⟩, _⟩ := (show MsOk F.X.K M H Hd from a0.p).go (g1.trans g2) _ hm
  obtain ⟨v, ev, dv⟩ := (valV_map (Sum.inl i : Key) ek da).2 d hg
  exact ⟨q, v, rfl, by have := DGet.k (k := (Sum.inl i : Key)) e1; rw [ev] at this; exact this, k v H2 Hd2 (g1.trans g2) ⟨_, rfl, dv⟩⟩
/-- of a dict of objects -/
theorem se_getR {q r : Addr} {kvs : List (Key × Addr)} {i : Int} (ha : SE F M ρ a (.rf q)) (hm : (q, OO.rd kvs) ∈ M) (hx : DE (F.ms M) ρ e (.ok (.int i))) (hg : (kvs.find? fun kv => decide (kv.1 = (Sum.inl i : Key))).map (·.2) = some r) (hs : NoSl e := by intro _ _; rfl) : SE F M ρ (.Subscript a e pos) (.rf r) := by
  obtain ⟨t, pe, i1⟩ := ha
  refine ⟨_, pe_dget (hu_le (Fr.hu F)) pe hx.pe hs, fun σ H Hd Q a0 k => i1 σ H Hd _ a0 fun w H1 Hd1 g1 sl => tE_ok (a0.go g1) fun u H2 Hd2 g2 d2 => ?_⟩
  have sl : some w = some (V.ref q) := sl
  cases sl
  cases d2
  obtain ⟨e1, _⟩ := (show MsOk F.X.K M H Hd from a0.p).go (g1.trans g2) _ hm
  have e1 : H2 q = some (.dK (kvs.map fun kv => (kv.1, V.ref kv.2))) := e1
  have ev : valV (kvs.map fun kv => (kv.1, V.ref kv.2)) (Sum.inl i : Key) = some (.ref r) := by
    induction kvs with
    | nil => cases hg
    | cons kv kvs ih =>
      by_cases e : kv.1 = (Sum.inl i : Key)
      · rw [List.map_cons, valV_pos (show (kv.1, V.ref kv.2).1 = _ from e)]
        rw [List.find?_cons, decide_eq_true e] at hg
        cases hg
        rfl
      · rw [List.map_cons, valV_neg (show ¬ (kv.1, V.ref kv.2).1 = _ from e)]
        rw [List.find?_cons, decide_eq_false e] at hg
        have : ∀ kvs : List (Key × Addr), (List.find? (fun kv => decide (kv.1 = (Sum.inl i : Key))) kvs).map (·.2) = some r → valV (kvs.map fun kv => (kv.1, V.ref kv.2)) (Sum.inl i : Key) = some (.ref r) := by
          intro kvs hg
          induction kvs with
          | nil => cases hg
          | cons kv kvs ih =>
            by_cases e : kv.1 = (Sum.inl i : Key)
            · rw [List.map_cons, valV_pos (show (kv.1, V.ref kv.2).1 = _ from e)]
              rw [List.find?_cons, decide_eq_true e] at hg
              cases hg
              rfl
            · rw [List.map_cons, valV_neg (show ¬ (kv.1, V.ref kv.2).1 = _ from e)]
              rw [List.find?_cons, decide_eq_false e] at hg
              exact ih hg
        exact this kvs hg
  exact ⟨q, _, rfl, by have := DGet.k (k := (Sum.inl i : Key)) e1; rw [ev] at this; exact this, k _ H2 Hd2 (g1.trans g2) rfl⟩
/-- a[e] = v, a key that is new -/
theorem dy_putD {q : Addr} {kvs : List (Key × PyData)} {i : Int} (hv : DE (F.ms M) ρ v (.ok d)) (ha : SE F M ρ a (.rf q)) (hx : DE (F.ms M) ρ e (.ok (.int i))) (hp : PutO M q (.d kvs) (.d (kvs ++ [((Sum.inl i : Key), d)])) M') (hn : valD kvs (Sum.inl i : Key) = none) (hl : kvs.length < sizeLine) (r : DY F B M' ρ rest o)
    (hs : swapsWith v (some (.Subscript a e tp)) pos.line F.X.env = pure false := by rfl) : DY F B M ρ (.Assign [.Subscript a e tp] v pos :: rest) o :=
  dy_step (ps_dput (hu_le (Fr.hu F)) (pe_se ha) hx.pe hv.pe hs) fun D σ H ⟨H0, Hd0, Hb, Hd, a0, k⟩ => ⟨Hd, a0.at, fun y H1 Hd1 g1 dv => by
    have a1 := a0.goG g1 (a0.e.mono g1.dd)
    refine ⟨Hd1, a1.at, fun w H2 Hd2 g2 sl => ?_⟩
    have sl : some w = some (V.ref q) := sl
    cases sl
    have a2 := a1.goG g2 (a1.e.mono g2.dd)
    refine ⟨Hd2, a2.at, fun u H3 Hd3 g3 d3 => ?_⟩
    cases d3
    have a3 := a2.goG g3 (a2.e.mono g3.dd)
    obtain ⟨⟨us, e1, ek, da⟩, e2⟩ := a3.x.m _ hp.mem
    have el : us.length = kvs.length := by have := congrArg List.length ek; simpa using this
    obtain ⟨p1, p2, p3⟩ := putK_map (k := (Sum.inl i : Key)) ek da ((dv.mono g2.dd).mono g3.dd) hn
    refine ⟨q, _, rfl, DPut.k (k := (Sum.inl i : Key)) e1 (by rw [el]; exact hl), ?_⟩
    rw [p1]
    exact ⟨_, r.pb, H0, Hd0, Hb, Hd3, ⟨hp.ex a3.x ⟨_, upd_same, p2, p3⟩, a3.l, a3.b, a3.e⟩, k⟩⟩
/-- a key taken away -/
def dropD (kvs : List (Key × PyData)) (k : Key) : List (Key × PyData) := kvs.filter fun kv => !decide (kv.1 = k)
end
end Dv
namespace Dv
open PySem L2 PyProof.Rows
theorem perm_sorted : ∀ {a b : List Int}, a.Perm b → a.Pairwise (· ≤ ·) → b.Pairwise (· ≤ ·) → a = b
  | [], b, p, _, _ => (List.nil_perm.mp p).symm
  | x :: xs, [], p, _, _ => absurd p.length_eq (by simp)
  | x :: xs, y :: ys, p, ha, hb => by
    have h1 := List.pairwise_cons.mp ha
    have h2 := List.pairwise_cons.mp hb
    have e : x = y := by
      have m1 : y ∈ x :: xs := p.mem_iff.mpr List.mem_cons_self
      have m2 : x ∈ y :: ys := p.mem_iff.mp List.mem_cons_self
      rcases List.mem_cons.mp m1 with q | q
      · exact q.symm
      · rcases List.mem_cons.mp m2 with z | z
        · exact z
        · exact Int.le_antisymm (h1.1 y q) (h2.1 x z)
    subst e
    rw [perm_sorted (p.cons_inv) h1.2 h2.2]
theorem op_any {X : Cx} {f : Value → Value → Sem Value} : OpR X f (fun x y H Q => ∃ r, OpR X f r ∧ r x y H Q) := fun pins s σ H x y v u Q I r1 r2 ⟨r, o, q⟩ => o pins s σ H x y v u Q I r1 r2 q
theorem envD_da {K : PySem.W.Frag} {H : Hp} : ∀ {vs : List V} {ds : List PyData}, EnvD K H (vs.map some) (ds.map Sl.da) → DtA K H vs ds
  | [], [], _ => .nil
  | v :: vs, d :: ds, h => by
    cases h with
    | cons a b =>
      obtain ⟨w, e, q⟩ := a
      cases e
      exact .cons q (envD_da b)
  | [], _ :: _, h => nomatch h
  | _ :: _, [], h => nomatch h
section
variable {F : Fr} {B : List Addr} {M M' : Ms} {ρ ρ' : List Sl} {pos p apos tp : Pos} {e a b c v : Expr} {es : List Expr} {rest A A2 : List Stmt} {x : Sl} {d : PyData} {P : Sl → Ms → Prop} {W : Addr → Ms → Prop} {PB : Bool → Ms → Prop} {o : YO}
/-- a.pop(e), a dict -/
theorem ye_dpop {q : Addr} {kvs : List (Key × PyData)} {i : Int} (ha : SE F M ρ a (.rf q)) (hx : DE (F.ms M) ρ e (.ok (.int i))) (hp : PutO M q (.d kvs) (.d (dropD kvs (Sum.inl i : Key))) M') (hg : valD kvs (Sum.inl i : Key) = some d) (r : P (.da d) M')
    (hb : attributeBase a "pop" F.X.env (eval a F.X.env) = eval a F.X.env := by rfl) (hf : ((backTo pos (starEach [e] F.X.env)).all (fun x => !x.1) && (backToKw pos (keywordEach [] F.X.env)).all (fun x => x.1.isSome) && decide (([e] : List Expr).length + ([] : List Keyword).length + (if ([] : List Keyword).isEmpty then 0 else 1) < 30)) = true := by rfl)
    (hl : (apos.endLine == pos.line) = true := by rfl) (ht : backTo pos (starEach [e] F.X.env) = [(false, eval e F.X.env)] := by rfl) : YE F M ρ (.Call (.Attribute a "pop" apos) [e] [] pos) P W :=
  ⟨_, pe_dpop1 (pe_se ha) hx.pe ⟨hb, hf, hl, ht⟩, fun σ H Hd Q u a0 k1 _ => ⟨Hd, a0, fun w H1 Hd1 g1 sl => by
    have sl : some w = some (V.ref q) := sl
    cases sl
    have x1 : Ex (adr M) H Hd F.X.K M H1 Hd1 := .grw a0.p u g1
    obtain ⟨⟨us0, e0, _⟩, _⟩ := x1.m _ hp.mem
    refine ⟨q, rfl, .inl ⟨_, .inl e0⟩, tE_ok (a0.go g1) fun y H2 Hd2 g2 d2 => ?_⟩
    cases d2
    have x2 := x1.trans (.grw x1.m u g2)
    obtain ⟨⟨us, e1, ek, da⟩, e2⟩ := x2.m _ hp.mem
    obtain ⟨v, ev, dv⟩ := (valV_map (Sum.inl i : Key) ek da).2 d hg
    refine ⟨us, (Sum.inl i : Key), v, e1, rfl, ev, k1 v _ Hd2 _ M' r (hp.ex x2 ⟨_, upd_same, ?_⟩) ⟨v, rfl, dv⟩⟩
    have main : ∀ (us : List (Key × V)) (kvs : List (Key × PyData)), us.map (·.1) = kvs.map (·.1) → DtA F.X.K Hd2 (us.map (·.2)) (kvs.map (·.2)) → (L2.dropK us (Sum.inl i : Key)).map (·.1) = (dropD kvs (Sum.inl i : Key)).map (·.1) ∧ DtA F.X.K Hd2 ((L2.dropK us (Sum.inl i : Key)).map (·.2)) ((dropD kvs (Sum.inl i : Key)).map (·.2)) := by
      intro us
      induction us with
      | nil =>
        intro kvs h1 h2
        cases kvs with
        | nil => exact ⟨rfl, .nil⟩
        | cons _ _ => cases h1
      | cons x us ih =>
        intro kvs h1 h2
        cases kvs with
        | nil => cases h1
        | cons y kvs =>
          have q1 : x.1 = y.1 := (List.cons.inj h1).1
          have q2 : us.map (·.1) = kvs.map (·.1) := (List.cons.inj h1).2
          cases h2 with
          | cons z1 z2 =>
            obtain ⟨w1, w2⟩ := ih kvs q2 z2
            unfold L2.dropK dropD at w1 w2 ⊢
            rw [List.filter_cons, List.filter_cons]
            by_cases hk : x.1 = (Sum.inl i : Key)
            · have hk' : y.1 = (Sum.inl i : Key) := q1 ▸ hk
              have e3 : (decide (x.1 ≠ (Sum.inl i : Key))) = false := decide_eq_false (fun n => n hk)
              have e4 : (!decide (y.1 = (Sum.inl i : Key))) = false := by rw [decide_eq_true hk']; rfl
              rw [e3, e4]
              exact ⟨w1, w2⟩
            · have hk' : ¬ y.1 = (Sum.inl i : Key) := q1 ▸ hk
              have e3 : (decide (x.1 ≠ (Sum.inl i : Key))) = true := decide_eq_true hk
              have e4 : (!decide (y.1 = (Sum.inl i : Key))) = true := by rw [decide_eq_false hk']; rfl
              rw [e3, e4]
              exact ⟨by show x.1 :: _ = y.1 :: _; rw [q1, w1], .cons z1 w2⟩
    exact main us kvs ek da⟩⟩
/-- sorted(a), a dict with whole numbers as keys -/
theorem de_sortedS {q : Addr} {kvs : List (Key × PyData)} {ks ys : List Int} {p2 : Pos} (ha : SE F M ρ a (.rf q)) (hm : (q, OO.d kvs) ∈ M) (hk : kvs.map (·.1) = ks.map Sum.inl) (hl : ks.length < 64) (hp : ys.Perm ks) (hs : ys.Pairwise (· ≤ ·)) (hc : F.X.calm = true := by rfl) (hg : Gl F.X "sorted" := by rfl)
    (he : starEach [a] F.X.env = (false, eval a F.X.env) :: starEach [] F.X.env := by rfl) (hpl : (backTo pos (starEach [] F.X.env)).any (·.1) = false := by rfl) : DE (F.ms M) ρ (.Call (.Name "sorted" p2) [a] [] pos) (.ok (.list (ys.map .int))) :=
  ⟨pe_imp (pe_callB (call_sortedDI hc) hg F.bl.sorted (by decide +kernel) (pa_cons (pe_se ha) pa_nil he) (he := he) (hpl := hpl)) fun σ H Q ⟨Hd, a0, k⟩ => ⟨Hd, a0, fun w H1 Hd1 g1 sl => by
    have sl : some w = some (V.ref q) := sl
    cases sl
    obtain ⟨⟨us, e1, ek, da⟩, _⟩ := (show MsOk F.X.K M H Hd from a0.p).go g1 _ hm
    refine ⟨q, us, ks, rfl, .inl e1, ek.trans hk, hl, fun zs r pz sz hr => ?_⟩
    have e : zs = ys := perm_sorted (pz.trans hp.symm) sz hs
    subst e
    exact k _ _ (L2.upd Hd1 r (.lst (zs.map V.int))) (g1.trans (.new g1.dh hr)) (.lst (.inl (.inl upd_same)) (DtA.ints zs))⟩⟩
/-! ### displays, operators, tests with changes -/
theorem ye_list (ha : YA F M ρ es (fun xs M1 => ∃ ds, xs = ds.map Sl.da ∧ ds.length ≤ sizeLine ∧ P (.da (.list ds)) M1) W) : YE F M ρ (.List es pos) P W := by
  obtain ⟨t, pa, i⟩ := ha
  refine ⟨_, pe_lst pa, fun σ H Hd Q u a0 k1 k2 => i σ H Hd _ u a0 (fun vs H1 Hd1 xs M1 z x1 ev => ?_) k2⟩
  obtain ⟨ds, rfl, hz, r⟩ := z
  have da := envD_da ev
  refine ⟨da.line hz, fun p hp => ?_⟩
  have g : Grw H1 Hd1 (L2.upd H1 p (.lst vs)) (L2.upd Hd1 p (.lst vs)) := .new x1.s hp
  exact k1 _ _ _ _ M1 r (x1.trans (.grw x1.m x1.u g)) ⟨_, rfl, .lst (.inl (.inl upd_same)) (da.mono (Same.upd (x1.s.free hp)))⟩
theorem ye_bin {op : Operator} (ha : YE F M ρ a (fun x M1 => YE F M1 ρ b (fun y M2 => ∃ da db dz, x = .da da ∧ y = .da db ∧ BinD F.X (binaryOp op) da db dz ∧ P (.da dz) M2) W) W) : YE F M ρ (.BinOp a op b pos) P W := by
  obtain ⟨t, pe, i⟩ := ha
  refine ⟨_, pe_op op_any pe pe_uE, fun σ H Hd Q u a0 k1 k2 => i σ H Hd _ u a0 (fun v H1 Hd1 x M1 z x1 s1 => ?_) k2⟩
  obtain ⟨t2, p2, i2⟩ := z
  refine ⟨t2, p2, i2 σ H1 Hd1 _ x1.u (at_ms x1 (a0.e.mono x1.g.dd)) (fun w H2 Hd2 y M2 z x2 s2 => ?_) fun C M2 H2 Hd2 z x2 => k2 C M2 H2 Hd2 z (x1.trans x2)⟩
  obtain ⟨da, db, dz, rfl, rfl, ⟨r, o, q⟩, hP⟩ := z
  obtain ⟨_, e1, d1⟩ := s1
  obtain ⟨_, e2, d2⟩ := s2
  cases e1; cases e2
  have x3 := x1.trans x2
  exact ⟨r, o, q v w H2 Hd2 _ x2.s (d1.mono x2.g.dd) d2 fun z H3 Hd3 g3 d3 => k1 z H3 Hd3 _ M2 hP (x3.trans (.grw x3.m x3.u g3)) ⟨z, rfl, d3⟩⟩
theorem ye_cmp {op : CmpOp} (ha : YE F M ρ a (fun x M1 => YE F M1 ρ b (fun y M2 => ∃ da db dz, x = .da da ∧ y = .da db ∧ BinD F.X (compareOp op) da db dz ∧ P (.da dz) M2) W) W) (hm : behindInMarks op b = false := by first | exact nomark _ | rfl) : YE F M ρ (.Compare a [op] [b] pos) P W := by
  obtain ⟨t, pe, i⟩ := ha
  refine ⟨_, pe_cmpR op_any pe pe_uE hm, fun σ H Hd Q u a0 k1 k2 => i σ H Hd _ u a0 (fun v H1 Hd1 x M1 z x1 s1 => ?_) k2⟩
  obtain ⟨t2, p2, i2⟩ := z
  refine ⟨t2, p2, i2 σ H1 Hd1 _ x1.u (at_ms x1 (a0.e.mono x1.g.dd)) (fun w H2 Hd2 y M2 z x2 s2 => ?_) fun C M2 H2 Hd2 z x2 => k2 C M2 H2 Hd2 z (x1.trans x2)⟩
  obtain ⟨da, db, dz, rfl, rfl, ⟨r, o, q⟩, hP⟩ := z
  obtain ⟨_, e1, d1⟩ := s1
  obtain ⟨_, e2, d2⟩ := s2
  cases e1; cases e2
  have x3 := x1.trans x2
  exact ⟨r, o, q v w H2 Hd2 _ x2.s (d1.mono x2.g.dd) d2 fun z H3 Hd3 g3 d3 => k1 z H3 Hd3 _ M2 hP (x3.trans (.grw x3.m x3.u g3)) ⟨z, rfl, d3⟩⟩
theorem yt_val (h : YE F M ρ e (fun x M1 => ∃ b, x = .da (.bool b) ∧ PB b M1) W) (he : ∀ whole, isTrue e F.X.env whole = (do let v ← whole; standAt e.pos; holding [v] (truthy v)) := by intro _; rfl) : YT F M ρ e PB W := by
  obtain ⟨t, pe, i⟩ := h
  refine ⟨_, pt_val pe he, fun σ H Hd Q u a0 k1 k2 => i σ H Hd _ u a0 (fun v H1 Hd1 x M1 z x1 s1 => ?_) k2⟩
  obtain ⟨b, rfl, hP⟩ := z
  obtain ⟨_, e1, d1⟩ := s1
  cases e1
  cases d1
  exact ⟨b, rfl, k1 b H1 Hd1 M1 hP x1⟩
theorem yt_not (h : YT F M ρ e (fun b M1 => PB (!b) M1) W) : YT F M ρ (.UnaryOp .Not e pos) PB W := by
  obtain ⟨t, pt, i⟩ := h
  exact ⟨_, pt_not pt, fun σ H Hd Q u a0 k1 k2 => i σ H Hd _ u a0 (fun b H1 Hd1 M1 z x1 => k1 (!b) H1 Hd1 M1 z x1) k2⟩
def YW (F : Fr) (M : Ms) (ρ : List Sl) (e : Expr) (P : Bool → Ms → Prop) (W : Addr → Ms → Prop) : Prop := ∃ t, PW F.X e t ∧ ∀ σ H Hd Q, (adr M).Nodup → At F.X.K (F.ms M).o ρ σ H Hd →
  (∀ b H' Hd' M', P b M' → Ex (adr M) H Hd F.X.K M' H' Hd' → Q b H') → (∀ C M' H' Hd', W C M' → Ex (adr M) H Hd F.X.K M' H' Hd' → F.o.W (.ref C) none σ H') → t σ H Q
theorem yt_w (h : YW F M ρ e PB W) : YT F M ρ e PB W := by
  obtain ⟨t, pw, i⟩ := h
  exact ⟨t, pw.pt, i⟩
theorem yw_or1 (h : YT F M ρ a PB W) : YW F M ρ (.BoolOp .Or [a] pos) PB W := by
  obtain ⟨t, pt, i⟩ := h
  exact ⟨t, pw_or1 pt, i⟩
theorem yw_and1 (h : YT F M ρ a PB W) : YW F M ρ (.BoolOp .And [a] pos) PB W := by
  obtain ⟨t, pt, i⟩ := h
  exact ⟨t, pw_and1 pt, i⟩
theorem yw_or (h : YT F M ρ a (fun x M1 => (x = true → PB true M1) ∧ (x = false → YW F M1 ρ (.BoolOp .Or (b :: es) pos) PB W)) W) : YW F M ρ (.BoolOp .Or (a :: b :: es) pos) PB W := by
  obtain ⟨t, pt, i⟩ := h
  refine ⟨_, pw_or pt pw_u, fun σ H Hd Q u a0 k1 k2 => i σ H Hd _ u a0 (fun x H1 Hd1 M1 z x1 => ?_) k2⟩
  cases x with
  | true => exact k1 true H1 Hd1 M1 (z.1 rfl) x1
  | false =>
    obtain ⟨t2, p2, i2⟩ := z.2 rfl
    exact ⟨t2, p2, i2 σ H1 Hd1 _ x1.u (at_ms x1 (a0.e.mono x1.g.dd)) (fun y H2 Hd2 M2 z2 x2 => k1 y H2 Hd2 M2 z2 (x1.trans x2)) fun C M2 H2 Hd2 z x2 => k2 C M2 H2 Hd2 z (x1.trans x2)⟩
theorem yw_and (h : YT F M ρ a (fun x M1 => (x = false → PB false M1) ∧ (x = true → YW F M1 ρ (.BoolOp .And (b :: es) pos) PB W)) W) : YW F M ρ (.BoolOp .And (a :: b :: es) pos) PB W := by
  obtain ⟨t, pt, i⟩ := h
  refine ⟨_, pw_and pt pw_u, fun σ H Hd Q u a0 k1 k2 => i σ H Hd _ u a0 (fun x H1 Hd1 M1 z x1 => ?_) k2⟩
  cases x with
  | false => exact k1 false H1 Hd1 M1 (z.1 rfl) x1
  | true =>
    obtain ⟨t2, p2, i2⟩ := z.2 rfl
    exact ⟨t2, p2, i2 σ H1 Hd1 _ x1.u (at_ms x1 (a0.e.mono x1.g.dd)) (fun y H2 Hd2 M2 z2 x2 => k1 y H2 Hd2 M2 z2 (x1.trans x2)) fun C M2 H2 Hd2 z x2 => k2 C M2 H2 Hd2 z (x1.trans x2)⟩
/-! ### a new list becomes data -/
theorem ye_ice (h : YE F M ρ e (fun x M1 => ∃ q ds M2, x = .rf q ∧ M1.Perm ((q, .l ds) :: M2) ∧ (∀ z ∈ adr M, z ∈ adr M2) ∧ P (.da (.list ds)) M2) W) : YE F M ρ e P W := by
  obtain ⟨t, pe, i⟩ := h
  refine ⟨t, pe, fun σ H Hd Q u a0 k1 k2 => i σ H Hd _ u a0 (fun v H1 Hd1 x M1 z x1 s1 => ?_) k2⟩
  obtain ⟨q, ds, M2, rfl, hp, hsub, hP⟩ := z
  have x := x1.perm hp
  have hu := List.nodup_cons.mp x.u
  obtain ⟨⟨vs, e1, da⟩, e2⟩ := x.m _ List.mem_cons_self
  have n0 : H q = none := by
    rcases x.n _ List.mem_cons_self with z | z
    · exact absurd (hsub _ z) hu.1
    · exact z
  have sd : Same Hd1 (L2.upd Hd1 q (.lst vs)) := Same.upd e2
  have s1 : some v = some (V.ref q) := s1
  cases s1
  refine k1 _ H1 (L2.upd Hd1 q (.lst vs)) _ M2 hP ⟨⟨x.g.hh, x.g.dd.trans sd, fun b u e => ?_, fun b h1 h2 => ?_⟩, x.lv, fun r hr => ?_, fun r hr => x.n r (List.mem_cons_of_mem _ hr), hu.2⟩ ⟨_, rfl, .lst (.inl (.inl upd_same)) (da.mono sd)⟩
  · by_cases hb : b = q
    · subst hb; rw [upd_same] at e; cases e; exact e1
    · rw [upd_ne hb] at e; exact x.g.dh _ _ e
  · have hb : b ≠ q := fun z => h1 (by rw [z]; exact n0)
    rw [upd_ne hb]; exact x.g.fr b h1 h2
  · have m1 := x.m r (List.mem_cons_of_mem _ hr)
    refine ⟨m1.1.mono (fun _ z => z) (fun _ _ z => z) sd, ?_⟩
    rw [upd_ne (fun z => hu.1 (List.mem_map.mpr ⟨r, hr, z⟩))]
    exact m1.2
/-- e.append(c), what e gives being new -/
theorem ye_appY {q0 : Unit} (ha : YE F M ρ a (fun x M1 => ∃ q ds M2, x = .rf q ∧ DE (F.ms M1) ρ e (.ok d) ∧ PutO M1 q (.l ds) (.l (ds ++ [d])) M2 ∧ ds.length < sizeLine ∧ P (.da .none) M2) W)
    (hbase : attributeBase a "append" F.X.env (eval a F.X.env) = eval a F.X.env := by rfl)
    (hfew : ((backTo pos (starEach [e] F.X.env)).all (fun x => !x.1) && (backToKw pos (keywordEach [] F.X.env)).all (fun x => x.1.isSome) && decide (([e] : List Expr).length + ([] : List Keyword).length + (if ([] : List Keyword).isEmpty then 0 else 1) < 30)) = true := by rfl)
    (hline : (apos.endLine == pos.line) = true := by rfl) (hs : starEach [e] F.X.env = (false, eval e F.X.env) :: starEach [] F.X.env := by rfl) (hplain : (backTo pos (starEach [] F.X.env)).any (·.1) = false := by rfl) : YE F M ρ (.Call (.Attribute a "append" apos) [e] [] pos) P W := by
  obtain ⟨t, pe, i⟩ := ha
  refine ⟨_, pe_bm PySem.F.plainAttrs_list PySem.F.slot_list_append PySem.F.type_list_append mt_append pe (pa_cons pe_uE pa_nil hs) hbase hfew hline hs hplain, fun σ H Hd Q u a0 k1 k2 => i σ H Hd _ u a0 (fun v H1 Hd1 x M1 z x1 s1 => ?_) k2⟩
  obtain ⟨q, ds, M2, rfl, hd, hp, hz, r⟩ := z
  have s1 : some v = some (V.ref q) := s1
  cases s1
  obtain ⟨⟨vs0, e0, _⟩, _⟩ := x1.m _ hp.mem
  refine ⟨.inl ⟨rfl, vs0, .inl (.inl e0)⟩, _, hd.pe, Hd1, at_ms x1 (a0.e.mono x1.g.dd), fun y H2 Hd2 g2 dy => ?_⟩
  have x2 := x1.trans (.grw x1.m x1.u g2)
  obtain ⟨⟨vs, e1, da⟩, e2⟩ := x2.m _ hp.mem
  exact ⟨q, vs, y, rfl, rfl, e1, by rw [da.len]; exact hz, k1 .non _ Hd2 _ M2 r (hp.ex x2 ⟨_, upd_same, da.snoc dy⟩) ⟨_, rfl, .non⟩⟩
end
end Dv
namespace Dv
open PySem L2 PyProof.Rows
/-! ### walks of what may change elsewhere -/
def WalksP (Φ : Hp → Hp → Prop) (K : PySem.W.Frag) (J : It) (ds : List PyData) : Prop := ∀ i H2 Hd2, Φ H2 Hd2 → Same Hd2 H2 →
  (∀ d, ds[i]? = some d → J.go i H2 ∧ ∀ v H', J.yld i H2 v H' → ∃ Hd', Grw H2 Hd2 H' Hd' ∧ Dt K Hd' v d) ∧ (ds.length ≤ i → J.stop i H2)
/-- a source's data, told as long as F's objects stay -/
def DIM (F : Fr) (ρ : List Sl) (tg iter : Expr) (ds : List PyData) : Prop := ∃ wi, PI F.X tg iter wi ∧ ∀ σ H Hd (R : It → Hp → Prop), At F.X.K F.o ρ σ H Hd → (∀ J H1 Hd1, Grw H Hd H1 Hd1 → WalksP (fun H2 Hd2 => Same Hd1 Hd2 ∧ F.o.Ψ H2 Hd2) F.X.K J ds → R J H1) → wi σ H R
section
variable {F : Fr} {B : List Addr} {M M' : Ms} {ρ ρ' : List Sl} {pos p apos tp : Pos} {e a b c v tg : Expr} {es : List Expr} {rest A A2 : List Stmt} {x : Sl} {d : PyData} {ds zs : List PyData} {P : Sl → Ms → Prop} {W : Addr → Ms → Prop} {PB : Bool → Ms → Prop} {o : YO}
theorem dim_di (h : DI F ρ tg e ds) : DIM F ρ tg e ds := by
  obtain ⟨wi, pi, so⟩ := h.ex
  exact ⟨wi, pi, fun σ H Hd R a k => so σ H Hd R a fun J H1 Hd1 g1 hw => k J H1 Hd1 g1 fun i H2 Hd2 ⟨s1, _⟩ s2 => hw i H2 Hd2 s1 s2⟩
/-- a list that changes elsewhere -/
theorem dim_list {q : Addr} (ha : SE F M ρ e (.rf q)) (hm : (q, OO.l ds) ∈ M) : DIM (F.ms M) ρ tg e ds := ⟨_, pi_list (pe_se ha), fun σ H Hd R a0 k => ⟨Hd, a0, fun w H1 Hd1 g1 sl => by
  have sl : some w = some (V.ref q) := sl
  cases sl
  obtain ⟨⟨vs1, e1, _⟩, _⟩ := (show MsOk F.X.K M H Hd from a0.p).go g1 _ hm
  refine ⟨q, rfl, ⟨vs1, .inl (.inl e1)⟩, k _ H1 Hd1 g1 fun i H2 Hd2 ⟨s1, m2⟩ s2 => ?_⟩
  obtain ⟨⟨vs, e2, da⟩, _⟩ := (show MsOk F.X.K M H2 Hd2 from m2) _ hm
  refine ⟨fun d e => ?_, fun hl => ⟨vs, .inl (.inl e2), by rw [da.len]; exact hl⟩⟩
  obtain ⟨v, ev, dv⟩ := da.get e
  refine ⟨⟨vs, v, .inl (.inl e2), ev⟩, fun u H' y => ?_⟩
  obtain ⟨eH, y⟩ := y
  subst eH
  have e3 := y vs (.inl (.inl e2))
  rw [ev] at e3
  cases e3
  exact ⟨Hd2, .refl s2, dv⟩⟩⟩
theorem walks_lcP {Φ : Hp → Hp → Prop} {J : It} {ds : List PyData} {g : TG} {tt : TT} {te : TE} {vs : List Nat} {σ : L2.St} {H1 : Hp} {L : Addr} {Q : VK} (Pv : Nat → Hp → Prop) (h0 : Pv 0 (L2.upd H1 L (.lst [])))
    (hs : ∀ i H, Pv i H → ∃ Hd, Φ H Hd ∧ Same Hd H ∧ ∀ d, ds[i]? = some d → ∀ v H' Hd', Grw H Hd H' Hd' → Dt F.X.K Hd' v d → g v (L2.wipe σ vs) H' fun σ2 H2 => L2.wipe σ2 vs = L2.wipe σ vs ∧ tt σ2 H2 fun b H3 =>
      if b = true then te σ2 H3 fun y H4 => ∃ acc, H4 L = some (.lst acc) ∧ acc.length < sizeLine ∧ Pv (i + 1) (L2.upd H4 L (.lst (acc ++ [y]))) else Pv (i + 1) H3)
    (hd : ∀ H, Pv ds.length H → Q (.ref L) H) (hw : WalksP Φ F.X.K J ds) :
    ∃ W : Nat → Nat → Hp → Prop, (∃ m, W 0 m (L2.upd H1 L (.lst []))) ∧ ∀ i m H, W i m H →
      (J.stop i H ∧ Q (.ref L) H) ∨ (J.go i H ∧ ∃ Nx : Hp → Prop, (∀ H', Nx H' → ∃ m', m' < m ∧ W (i + 1) m' H') ∧ ∀ x H', J.yld i H x H' → g x (L2.wipe σ vs) H' fun σ2 H2 => L2.wipe σ2 vs = L2.wipe σ vs ∧ tt σ2 H2 fun b H3 =>
        if b = true then te σ2 H3 fun y H4 => ∃ acc, H4 L = some (.lst acc) ∧ acc.length < sizeLine ∧ Nx (L2.upd H4 L (.lst (acc ++ [y]))) else Nx H3) := by
  refine ⟨fun i m H => m = ds.length - i ∧ i ≤ ds.length ∧ Pv i H, ⟨ds.length, rfl, Nat.zero_le _, h0⟩, ?_⟩
  rintro i m H ⟨rfl, hi, p⟩
  obtain ⟨Hd, s1, s2, turn⟩ := hs i H p
  obtain ⟨w1, w2⟩ := hw i H Hd s1 s2
  by_cases hlt : i < ds.length
  · obtain ⟨go, y⟩ := w1 ds[i] (List.getElem?_eq_getElem hlt)
    refine .inr ⟨go, Pv (i + 1), fun H' p' => ⟨ds.length - (i + 1), by omega, rfl, hlt, p'⟩, fun v H' yy => ?_⟩
    obtain ⟨Hd', g1, dv⟩ := y v H' yy
    exact turn _ (List.getElem?_eq_getElem hlt) v H' Hd' g1 dv
  · have e : i = ds.length := by omega
    subst e
    exact .inl ⟨w2 (Nat.le_refl _), hd H p⟩
/-- a comprehension: its list is new -/
theorem lc_runN {scope : Scope} {own : List (Str × Nat)} {elt : Expr} {ifs : List Expr} {g : TG} {b : PyData → List Sl → Option (List Sl)} {wi : TI} (so : ∀ σ H Hd (R : It → Hp → Prop), At F.X.K F.o ρ σ H Hd → (∀ J H1 Hd1, Grw H Hd H1 Hd1 → WalksP (fun H2 Hd2 => Same Hd1 Hd2 ∧ F.o.Ψ H2 Hd2) F.X.K J ds → R J H1) → wi σ H R) (ht : TgOk F.X.K g b (own.map (·.2)))
    (cp : Cp (CpT F (wipeR ρ (own.map (·.2))) scope b ifs elt) ds zs) (hz : ds.length < sizeLine) {σ : L2.St} {H Hd : Hp} {Q : VK} (a : At F.X.K F.o ρ σ H Hd) (k : ∀ p acc H' Hd', Grw H Hd H' Hd' → H p = none → H' p = some (.lst acc) → Hd' p = none → DtA F.X.K Hd' acc zs → Q (.ref p) H') :
    tLc wi g (uTB F.X scope ifs) (uEB F.X scope elt) (own.map (·.2)) σ H Q := by
  refine so σ H Hd _ a fun J H1 Hd1 g1 hw L hL => ?_
  obtain ⟨zf, e0, e1, e2⟩ := cp_snoc cp
  have zl : ∀ i, i ≤ ds.length → (zf i).length ≤ i := fun i => by
    induction i with
    | zero => intro _; rw [e0]; exact Nat.le_refl _
    | succ i ih =>
      intro hi
      have h1 := ih (by omega)
      rcases e2 i ds[i] (List.getElem?_eq_getElem (by omega)) with ⟨z, _, q⟩ | ⟨_, q⟩
      · rw [q, List.length_append, List.length_singleton]; omega
      · rw [q]; omega
  have hLd : Hd1 L = none := (show Same Hd1 H1 from g1.dh).free hL
  have hL0 : H L = none := (show Same H H1 from g1.hh).free hL
  refine walks_lcP (F := F) (g := g) (tt := uTB F.X scope ifs) (te := uEB F.X scope elt) (vs := own.map (·.2)) (σ := σ) (H1 := H1) (L := L) (Q := Q) (fun i H2 => ∃ Hd2 acc, Grw H1 Hd1 H2 Hd2 ∧ H2 L = some (.lst acc) ∧ Hd2 L = none ∧ DtA F.X.K Hd2 acc (zf i) ∧ i ≤ ds.length) ?_ ?_ ?_ hw
  · exact ⟨Hd1, [], Grw.put (.refl g1.dh) hL hLd, upd_same, hLd, by rw [e0]; exact .nil, Nat.zero_le _⟩
  · rintro i H2 ⟨Hd2, acc, g2, eL, nL, da, hi⟩
    refine ⟨Hd2, ⟨g2.dd, F.o.st a.p (g1.trans g2)⟩, g2.dh, fun d hd v H3 Hd3 g3 dv => ?_⟩
    have hlt : i < ds.length := (List.getElem?_eq_some_iff.mp hd).1
    have a3 := (a.go g1).go (g2.trans g3)
    have nL3 : Hd3 L = none := g3.fr L (by rw [eL]; exact fun z => nomatch z) nL
    have eL3 := g3.hh L _ eL
    have hlen : acc.length ≤ i := by rw [da.len]; exact zl i hi
    rcases e2 i d hd with ⟨z, ⟨ρt, eb, t1, t2⟩, q⟩ | ⟨⟨ρt, eb, t1, t2⟩, q⟩
    · refine ht d _ ρt eb v _ H3 Hd3 _ g3.dh (EnvD.wipe a3.e _) dv fun σ' e' hw' => ⟨by rw [hw', wipe_idem], ?_⟩
      refine ⟨tT F.X.K F.o.blk ρt true, fun s H C cl fp => (t1 s H C cl fp).pts, Hd3, ⟨g3.dh, e', a3.p⟩, fun H4 Hd4 g4 => ?_⟩
      refine iteT ?_
      refine ⟨tE F.X.K F.o.blk ρt (.ok z), fun s H C cl fp => (t2 z rfl s H C cl fp).pe, Hd4, ⟨g4.dh, EnvD.mono e' g4.dd, F.o.st a3.p g4⟩, fun y H5 Hd5 g5 dy => ?_⟩
      have eL5 := (g4.trans g5).hh L _ eL3
      have nL5 : Hd5 L = none := (g4.trans g5).fr L (by rw [eL3]; exact fun z => nomatch z) nL3
      refine ⟨acc, eL5, by omega, Hd5, acc ++ [y], Grw.put (((g2.trans g3).trans g4).trans g5) hL nL5, upd_same, nL5, ?_, hlt⟩
      rw [q]
      exact (da.mono ((g3.dd.trans g4.dd).trans g5.dd)).snoc dy
    · refine ht d _ ρt eb v _ H3 Hd3 _ g3.dh (EnvD.wipe a3.e _) dv fun σ' e' hw' => ⟨by rw [hw', wipe_idem], ?_⟩
      refine ⟨tT F.X.K F.o.blk ρt false, fun s H C cl fp => (t1 s H C cl fp).pts, Hd3, ⟨g3.dh, e', a3.p⟩, fun H4 Hd4 g4 => ?_⟩
      refine iteF ?_
      refine ⟨Hd4, acc, (g2.trans g3).trans g4, g4.hh L _ eL3, g4.fr L (by rw [eL3]; exact fun z => nomatch z) nL3, ?_, hlt⟩
      rw [q]
      exact da.mono (g3.dd.trans g4.dd)
  · rintro H2 ⟨Hd2, acc, g2, eL, nL, da, _⟩
    rw [e1] at da
    exact k L acc H2 Hd2 (g1.trans g2) hL0 eL nL da
/-- .. as data -/
theorem lc_runM {scope : Scope} {own : List (Str × Nat)} {elt : Expr} {ifs : List Expr} {g : TG} {b : PyData → List Sl → Option (List Sl)} {wi : TI} (so : ∀ σ H Hd (R : It → Hp → Prop), At F.X.K F.o ρ σ H Hd → (∀ J H1 Hd1, Grw H Hd H1 Hd1 → WalksP (fun H2 Hd2 => Same Hd1 Hd2 ∧ F.o.Ψ H2 Hd2) F.X.K J ds → R J H1) → wi σ H R) (ht : TgOk F.X.K g b (own.map (·.2)))
    (cp : Cp (CpT F (wipeR ρ (own.map (·.2))) scope b ifs elt) ds zs) (hz : ds.length < sizeLine) {σ : L2.St} {H Hd : Hp} {Q : VK} (a : At F.X.K F.o ρ σ H Hd) (k : ∀ v H' Hd', Grw H Hd H' Hd' → Dt F.X.K Hd' v (.list zs) → Q v H') :
    tLc wi g (uTB F.X scope ifs) (uEB F.X scope elt) (own.map (·.2)) σ H Q := lc_runN so ht cp hz a fun p acc H' Hd' g1 n0 e1 n1 da => by
  refine k _ H' (L2.upd Hd' p (.lst acc)) ⟨g1.hh, g1.dd.trans (Same.upd n1), fun b u e => ?_, fun b h1 h2 => ?_⟩ (.lst (.inl (.inl upd_same)) (da.mono (Same.upd n1)))
  · by_cases hb : b = p
    · subst hb; rw [upd_same] at e; cases e; exact e1
    · rw [upd_ne hb] at e; exact g1.dh _ _ e
  · have hb : b ≠ p := fun z => h1 (by rw [z]; exact n0)
    rw [upd_ne hb]; exact g1.fr b h1 h2
theorem de_lcM {scope : Scope} {own : List (Str × Nat)} {iter elt : Expr} {ifs : List Expr} {g : TG} {b : PyData → List Sl → Option (List Sl)} (hi : DIM F ρ tg iter ds) (ok : BlkOk F.X.N F.X.env.scope scope own)
    (hg : ∀ (s : Shared) (H : Hp) (C : Addr) (cl : List (Str × Addr)) (fp : List Addr), PG (F.X.blk s H scope (compEnvC scope cl C F.X.env) fp) tg g) (ht : TgOk F.X.K g b (own.map (·.2)))
    (cp : Cp (CpT F (wipeR ρ (own.map (·.2))) scope b ifs elt) ds zs) (hz : ds.length < sizeLine) (hc : F.X.calm = true := by rfl) (hs : ∀ x, foldedSetIterable iter F.X.env x = pure x := by intro _; rfl) :
    DE F ρ (.ListComp elt [⟨tg, iter, ifs, 0⟩] scope pos) (.ok (.list zs)) := by
  obtain ⟨wi, pi, so⟩ := hi
  exact ⟨pe_imp (pe_lc hc F.nd pi ok hg (fun _ _ _ _ _ => pts_u) (fun _ _ _ _ _ => pe_ub) hs) fun σ H Q ⟨Hd, a, k⟩ => lc_runM so ht cp hz a k⟩
theorem ds_setLcM {i : Nat} {y : Str} {py spos : Pos} {scope : Scope} {own : List (Str × Nat)} {iter elt : Expr} {ifs : List Expr} {g : TG} {b : PyData → List Sl → Option (List Sl)} (hi : DIM F ρ tg iter ds) (ok : BlkOk F.X.N F.X.env.scope scope own)
    (hg : ∀ (s : Shared) (H : Hp) (C : Addr) (cl : List (Str × Addr)) (fp : List Addr), PG (F.X.blk s H scope (compEnvC scope cl C F.X.env) fp) tg g) (ht : TgOk F.X.K g b (own.map (·.2)))
    (cp : Cp (CpT F (wipeR ρ (own.map (·.2))) scope b ifs elt) ds zs) (hz : ds.length < sizeLine) (hy : F.X.N[i]? = some y) (hyl : F.X.env.scope.names.lookup y = some .local)
    (hsw : swapsWith (.ListComp elt [⟨tg, iter, ifs, 0⟩] scope pos) (some (.Name y py)) spos.line F.X.env = pure true) (hc : F.X.calm = true := by rfl) (hs : ∀ x, foldedSetIterable iter F.X.env x = pure x := by intro _; rfl) :
    DS F ρ (.Assign [.Name y py] (.ListComp elt [⟨tg, iter, ifs, 0⟩] scope pos) spos) (.nx (ρ.set i (.da (.list zs)))) := by
  obtain ⟨wi, pi, so⟩ := hi
  exact ⟨ps_imp (ps_setLc hc F.nd hy hyl hsw pi ok hg (fun _ _ _ _ _ => pts_u) (fun _ _ _ _ _ => pe_ub) hs) fun D σ H ⟨Hd, a, k⟩ => lc_runM so ht cp hz a fun v H1 Hd1 g1 dv => k _ H1 Hd1 g1 (EnvD.set i (a.e.mono g1.dd) ⟨v, rfl, dv⟩)⟩
/-- the new list itself -/
theorem ye_lcN {scope : Scope} {own : List (Str × Nat)} {iter elt : Expr} {ifs : List Expr} {g : TG} {b : PyData → List Sl → Option (List Sl)} (hi : DIM (F.ms M) ρ tg iter ds) (ok : BlkOk F.X.N F.X.env.scope scope own)
    (hg : ∀ (s : Shared) (H : Hp) (C : Addr) (cl : List (Str × Addr)) (fp : List Addr), PG (F.X.blk s H scope (compEnvC scope cl C F.X.env) fp) tg g) (ht : TgOk F.X.K g b (own.map (·.2)))
    (cp : Cp (CpT (F.ms M) (wipeR ρ (own.map (·.2))) scope b ifs elt) ds zs) (hz : ds.length < sizeLine) (r : ∀ q, P (.rf q) ((q, .l zs) :: M)) (hc : F.X.calm = true := by rfl) (hs : ∀ x, foldedSetIterable iter F.X.env x = pure x := by intro _; rfl) :
    YE F M ρ (.ListComp elt [⟨tg, iter, ifs, 0⟩] scope pos) P W := by
  obtain ⟨wi, pi, so⟩ := hi
  refine ⟨_, pe_lc hc F.nd pi ok hg (fun _ _ _ _ _ => pts_u) (fun _ _ _ _ _ => pe_ub) hs, fun σ H Hd Q u a k1 _ => lc_runN (F := F.ms M) so ht cp hz a fun q acc H' Hd' g1 n0 e1 n1 da => ?_⟩
  have x := Ex.grw a.p u g1
  refine k1 _ H' Hd' _ _ (r q) ⟨x.g, x.lv, fun e he => ?_, fun e he => ?_, List.nodup_cons.mpr ⟨fun z => ?_, u⟩⟩ rfl
  · rcases List.mem_cons.mp he with w | w
    · subst w; exact ⟨⟨acc, e1, da⟩, n1⟩
    · exact x.m e w
  · rcases List.mem_cons.mp he with w | w
    · subst w; exact .inr n0
    · exact x.n e w
  · obtain ⟨e, he, e3⟩ := List.mem_map.mp z
    have := ((show MsOk F.X.K M H Hd from a.p) e he).1.live
    rw [e3] at this
    exact this n0
/-! ### loops -/
theorem dy_for {g : TG} {b : PyData → List Sl → Option (List Sl)} {vs : List Nat} (I : Nat → List Sl → Ms → Prop) (hi : DI (F.ms M) ρ tg e ds) (hg : PG F.X tg g) (ht : TgOk F.X.K g b vs) (h0 : I 0 ρ M)
    (hs : ∀ i d ρi Mi, ds[i]? = some d → I i ρi Mi → ∃ ρw ρt, Wk ρi ρw ∧ b d ρw = some ρt ∧ DY F B Mi ρt A { o with nx := I (i + 1), ct := I (i + 1), bk := fun ρ' M' => DY F B M' ρ' rest o })
    (hd : ∀ ρ' M', I ds.length ρ' M' → DY F B M' ρ' rest o) (hc : F.X.calm = true := by rfl) (hx : ∀ x, foldedSetIterable e F.X.env x = pure x := by intro _; rfl) : DY F B M ρ (.For tg e A [] pos :: rest) o := by
  obtain ⟨wi, pi, so⟩ := hi.ex
  refine dy_step (ps_for F.po hc pi hg pss_u hx) fun D σ H ⟨H0, Hd0, Hb, Hd, a, k⟩ => so σ H Hd _ a.at fun J H1 Hd1 g1 hw => ?_
  have a1 := a.goG g1 (a.e.mono g1.dd)
  refine walks_for (fun i σ2 H2 => ∃ ρi Mi Hd2, AtY F.X.K B Mi ρi σ2 H0 Hd0 Hd1 H2 Hd2 ∧ I i ρi Mi) ⟨ρ, M, Hd1, ⟨a1.x, a1.l, Same.refl _, a1.e⟩, h0⟩ ?_ ?_ hw
  · rintro i σ2 H2 ⟨ρi, Mi, Hd2, a2, hI⟩
    refine ⟨Hd2, a2.b, a2.x.s, fun d hd' v H3 Hd3 g3 dv => ?_⟩
    obtain ⟨ρw, ρt, hwk, eb, hb⟩ := hs i d ρi Mi hd' hI
    have a3 := a2.goG g3 (a2.e.mono g3.dd)
    refine ht d ρw _ eb v σ2 H3 Hd3 _ g3.dh (EnvD.wk a3.e hwk) dv fun σ' e' _ => ⟨_, hb.pb, H0, Hd0, Hd1, Hd3, ⟨a3.x, a3.l, a3.b, e'⟩, ?_⟩
    refine ⟨fun σ'' H4 Hd4 ρ4 M4 z x b e => ⟨ρ4, M4, Hd4, ⟨x, a3.l, b, e⟩, z⟩, fun σ'' H4 Hd4 ρ4 M4 z x b e => ⟨_, z.pb, H0, Hd0, Hb, Hd4, ⟨x, a3.l, a1.b.trans b, e⟩, k⟩, fun σ'' H4 Hd4 ρ4 M4 z x b e => ⟨ρ4, M4, Hd4, ⟨x, a3.l, b, e⟩, z⟩, k.rt, k.er⟩
  · rintro σ2 H2 ⟨ρi, Mi, Hd2, a2, hI⟩
    exact ⟨_, (hd ρi Mi hI).pb, H0, Hd0, Hb, Hd2, ⟨a2.x, a2.l, a1.b.trans a2.b, a2.e⟩, k⟩
theorem dy_while (I : Nat → List Sl → Ms → Prop) {n : Nat} (h0 : I n ρ M) (hs : ∀ m ρi Mi, I m ρi Mi → ∃ ρw x, Wk ρi ρw ∧ DT (F.ms Mi) ρw c x ∧ (x = false → DY F B Mi ρw rest o) ∧ (x = true → DY F B Mi ρw A { o with nx := fun ρ' M' => ∃ m', m' < m ∧ I m' ρ' M', ct := fun ρ' M' => ∃ m', m' < m ∧ I m' ρ' M', bk := fun ρ' M' => DY F B M' ρ' rest o })) :
    DY F B M ρ (.While c A [] pos :: rest) o := by
  refine dy_step (ps_while F.po pt_u pss_u) fun D σ H ⟨H0, Hd0, Hb, Hd, a, k⟩ => ?_
  refine ⟨fun m σ2 H2 => ∃ ρi Mi Hd2, AtY F.X.K B Mi ρi σ2 H0 Hd0 Hb H2 Hd2 ∧ I m ρi Mi, ⟨n, ρ, M, Hd, a, h0⟩, ?_⟩
  rintro m σ2 H2 ⟨ρi, Mi, Hd2, a2, hI⟩
  obtain ⟨ρw, x, hwk, hc, h1, h2⟩ := hs m ρi Mi hI
  have a2w : AtY F.X.K B Mi ρw σ2 H0 Hd0 Hb H2 Hd2 := ⟨a2.x, a2.l, a2.b, EnvD.wk a2.e hwk⟩
  refine ⟨_, hc.pt, Hd2, a2w.at, fun H3 Hd3 g3 => ?_⟩
  have a3 := a2w.goG g3 (a2w.e.mono g3.dd)
  dsimp only
  cases x with
  | false =>
    rw [if_neg (fun z => nomatch z)]
    exact ⟨_, (h1 rfl).pb, H0, Hd0, Hb, Hd3, a3, k⟩
  | true =>
    rw [if_pos rfl]
    refine ⟨fun σ' H' => ∃ m', m' < m ∧ ∃ ρi Mi Hd2, AtY F.X.K B Mi ρi σ' H0 Hd0 Hb H' Hd2 ∧ I m' ρi Mi, fun σ' H' ⟨m', hm, q⟩ => ⟨m', hm, q⟩, ?_⟩
    refine ⟨_, (h2 rfl).pb, H0, Hd0, Hb, Hd3, a3, ?_⟩
    exact ⟨fun σ'' H4 Hd4 ρ4 M4 ⟨m', hm, z⟩ x b e => ⟨m', hm, ρ4, M4, Hd4, ⟨x, a3.l, b, e⟩, z⟩, fun σ'' H4 Hd4 ρ4 M4 z x b e => ⟨_, DY.pb z, H0, Hd0, Hb, Hd4, ⟨x, a3.l, b, e⟩, k⟩, fun σ'' H4 Hd4 ρ4 M4 ⟨m', hm, z⟩ x b e => ⟨m', hm, ρ4, M4, Hd4, ⟨x, a3.l, b, e⟩, z⟩, k.rt, k.er⟩
/-! ### try .. except X as n: return .. -/
theorem dy_tryAs {body suite : List Stmt} {b0 : Stmt} {y n : Str} {np pos' : Pos} {i : Nat} {c : Value} {V : Addr → Ms → Prop} (hs : F.X.stack = F.X.env :: F.X.outer) (hf : F.X.env.frame = some F.X.env.locals) (hi : F.X.N[i]? = some n) (hln : F.X.env.kindOf n = some .local) (hc : Names F.X y c)
    (hb : ∀ W pn xe tk po, DY (F.tr W pn xe tk po) B M ρ body { nx := fun ρ' M' => DY F B M' ρ' rest o, bk := o.bk, ct := o.ct, rt := o.rt, er := V })
    (h : ∀ C M', V C M' → PySem.W.exmOne F.X.K (.ref C) c = some true ∧ ∃ d, o.rt (.da d) M' ∧ ∀ a oe pn, L2N.Zn (.ref C) none oe → (∃ vs, oe.data = .fields vs) → DB ((F.ms M').suite a oe pn) ((List.replicate F.X.N.length Sl.un).set i (.rf a)) (b0 :: suite) (.ret d)) :
    DY F B M ρ (.Try body [.ExceptHandler (some (.Name y np)) (some n) (b0 :: suite) pos'] [] [] pos :: rest) o := by
  refine dy_step (L2N.ps_try_as (tb := uTr F body) (ts := fun a cls d => uSu F (b0 :: suite) a cls d) (Wout := F.o.W) hs hf F.nd hi hln hc F.tk (fun W pn xe tk po => ⟨fun pins s σ H D I ⟨t, ht, q⟩ => (ht pn xe tk po).run pins s σ H D I q⟩)
    (fun a oe cls d pn hz hd => ⟨fun pins s σ H D I ⟨t, ht, q⟩ => (ht oe pn hz hd).run pins s σ H D I q⟩)) fun D σ H ⟨H0, Hd0, Hb, Hd, a, k⟩ => ?_
  refine ⟨tY F.X.K { W := fun c0 d σ H => σ.length = F.X.N.length → wAs F.X.K c i (fun a cls d => uSu F (b0 :: suite) a cls d) F.o.W { D with nx := uB F.X rest D } c0 d σ H, Ψ := F.o.Ψ, st := F.o.st } B M ρ { nx := fun ρ' M' => DY F B M' ρ' rest o, bk := o.bk, ct := o.ct, rt := o.rt, er := V }, fun pn xe tk po => (hb _ pn xe (takes_len (X := F.X.tr pn xe) tk) po).pb, H0, Hd0, Hb, Hd, a, ?_⟩
  refine ⟨fun σ' H' Hd' ρ' M' z x b e => ⟨_, DY.pb z, H0, Hd0, Hb, Hd', ⟨x, a.l, b, e⟩, k⟩, k.bk, k.ct, k.rt, fun C M' σ' H' Hd' z x hl => ?_⟩
  obtain ⟨hx, d, hr, hsu⟩ := h C M' z
  refine ⟨true, hx, fun _ a' ha' => ?_, fun z => nomatch z⟩
  refine ⟨tO F.X.K (F.ms M').o.blk ((List.replicate F.X.N.length Sl.un).set i (.rf a')) (.ret d), fun oe pn hz hd => (hsu a' oe pn hz hd).pb, Hd', ⟨x.s, ?_, x.m⟩, ?_⟩
  · rw [← hl]
    exact EnvD.set i (EnvD.un Hd' σ') rfl
  · exact fun v H2 Hd2 g2 dv => k.rt v H2 Hd2 _ M' hr (x.trans (.grw x.m x.u g2)) ⟨v, rfl, dv⟩
end
end Dv
namespace Dv
open PySem L2 PyProof.Rows
/-! ### one list is another, otherwise ordered -/
inductive Pick {α : Type} (e : α) : List α → List α → Prop
  | here {l : List α} : Pick e (e :: l) l
  | there {x : α} {l l' : List α} : Pick e l l' → Pick e (x :: l) (x :: l')
theorem Pick.perm {α : Type} {e : α} {l l' : List α} (h : Pick e l l') : l.Perm (e :: l') := by
  induction h with
  | here => exact .refl _
  | there _ ih => exact (ih.cons _).trans (.swap _ _ _)
theorem perm_pick {α : Type} {e : α} {l1 l2 l2' : List α} (h : Pick e l2 l2') (p : l1.Perm l2') : (e :: l1).Perm l2 := (p.cons e).trans h.perm.symm
theorem blk_ms {F : Fr} {M : Ms} {s : Shared} {H : Hp} {scope : Scope} {cenv : Env} {fp : List Addr} : (F.ms M).blk s H scope cenv fp = (F.blk s H scope cenv fp).ms M := rfl
theorem suite_ms {F : Fr} {M : Ms} {a : Addr} {oe : Obj} {pn : List (Addr × Obj)} : (F.ms M).suite a oe pn = (F.suite a oe pn).ms M := rfl
section
variable {F : Fr} {B : List Addr} {M M' : Ms} {ρ ρ' : List Sl} {pos p apos tp : Pos} {e a b c v tg : Expr} {es : List Expr} {rest A A2 : List Stmt} {x : Sl} {d : PyData} {ds zs : List PyData} {P : Sl → Ms → Prop} {W : Addr → Ms → Prop} {PB : Bool → Ms → Prop} {PL : List Sl → Ms → Prop} {o : YO}
theorem ya_consY (h : YE F M ρ e (fun x M1 => YA F M1 ρ es (fun xs M2 => PL (x :: xs) M2) W) W) (hs : starEach (e :: es) F.X.env = (false, eval e F.X.env) :: starEach es F.X.env := by rfl) : YA F M ρ (e :: es) PL W := by
  obtain ⟨t, pe, i⟩ := h
  refine ⟨_, pa_cons pe pa_u hs, fun σ H Hd Q u a0 k1 k2 => i σ H Hd _ u a0 (fun v H1 Hd1 x M1 z x1 s1 => ?_) k2⟩
  obtain ⟨t2, p2, i2⟩ := z
  exact ⟨t2, p2, i2 σ H1 Hd1 _ x1.u (at_ms x1 (a0.e.mono x1.g.dd)) (fun vs H2 Hd2 xs M2 z x2 da => k1 (v :: vs) H2 Hd2 (x :: xs) M2 z (x1.trans x2) (.cons (s1.mono x2.g.dd) da)) fun C M2 H2 Hd2 z x2 => k2 C M2 H2 Hd2 z (x1.trans x2)⟩
theorem envD_rf {K : PySem.W.Frag} {H : Hp} : ∀ {vs : List V} {ps : List Addr}, EnvD K H (vs.map some) (ps.map Sl.rf) → vs = ps.map V.ref
  | [], [], _ => rfl
  | v :: vs, q :: ps, h => by
    cases h with
    | cons a b =>
      have a : some v = some (V.ref q) := a
      cases a
      rw [envD_rf b]
      rfl
  | [], _ :: _, h => nomatch h
  | _ :: _, [], h => nomatch h
/-- a list of objects -/
theorem ye_listR (ha : YA F M ρ es (fun xs M1 => ∃ ps, xs = ps.map Sl.rf ∧ ps.length ≤ sizeLine ∧ ∀ q, P (.rf q) ((q, .rl ps) :: M1)) W) : YE F M ρ (.List es pos) P W := by
  obtain ⟨t, pa, i⟩ := ha
  refine ⟨_, pe_lst pa, fun σ H Hd Q u a0 k1 k2 => i σ H Hd _ u a0 (fun vs H1 Hd1 xs M1 z x1 ev => ?_) k2⟩
  obtain ⟨ps, rfl, hz, r⟩ := z
  obtain rfl := envD_rf ev
  refine ⟨by rw [List.length_map]; exact hz, fun p hp => ?_⟩
  have gn : Grw H1 Hd1 (L2.upd H1 p (.lst (ps.map V.ref))) Hd1 := .junk x1.s hp
  have x2 := x1.trans (.grw x1.m x1.u gn)
  refine k1 _ _ Hd1 _ _ (r p) ⟨x2.g, x2.lv, fun q hq => ?_, fun q hq => ?_, List.nodup_cons.mpr ⟨fun z => ?_, x1.u⟩⟩ rfl
  · rcases List.mem_cons.mp hq with w | w
    · subst w; exact ⟨upd_same, x1.s.free hp⟩
    · exact x2.m q w
  · rcases List.mem_cons.mp hq with w | w
    · subst w
      refine .inr (Classical.byContradiction fun z => x1.lv _ z hp)
    · exact x1.n q w
  · obtain ⟨q, hq, e1⟩ := List.mem_map.mp z
    have := (x1.m q hq).1.live
    rw [e1] at this
    exact this hp
theorem callOk_of {g : Gm} {xs : List Sl} {Mc Mr : Ms} (hp : M.Perm (Mc ++ Mr)) (hg : g xs Mc (fun x M' => P x (M' ++ Mr)) (fun C M' => W C (M' ++ Mr))) : CallOk g xs M P W := ⟨Mc, Mr, _, _, hp, hg, fun _ _ h => h, fun _ _ h => h⟩
theorem ye_imp1 {P' : Sl → Ms → Prop} (h : YE F M ρ e P' W) (i : ∀ x M', P' x M' → P x M') : YE F M ρ e P W := ye_imp h i fun _ _ z => z
end
end Dv
namespace Dv
open PySem L2 PyProof.Rows
section
variable {F : Fr} {B : List Addr} {M M' : Ms} {ρ ρ' : List Sl} {pos p apos tp : Pos} {e a b c v tg : Expr} {es : List Expr} {rest A A2 : List Stmt} {x : Sl} {d : PyData} {o : YO}
/-- no object at the start, data at the end -/
theorem db_dy (h : DY F [] [] ρ A { rt := fun x _ => x = .da d }) : DB F ρ A (.ret d) := ⟨pss_imp h.pb fun D σ H ⟨Hd, a, k⟩ => ⟨H, Hd, Hd, Hd, ⟨Ex.refl (M := []) a.s (fun _ h => nomatch h) List.nodup_nil, fun _ h => (nomatch h), Same.refl _, a.e⟩,
  fun _ _ _ _ _ z => z.elim, fun _ _ _ _ _ z => z.elim, fun _ _ _ _ _ z => z.elim, fun v H' Hd' x M' z y sl => by
    subst z
    obtain ⟨w, e, dv⟩ := sl
    cases e
    exact k v H' Hd' ⟨fun a o e => y.g.hh a o (fun z => nomatch z) e, y.g.dd, y.g.dh, y.g.fr⟩ dv, fun _ _ _ _ _ z => z.elim⟩⟩
theorem dy_skipY (h : YT F M ρ c (fun x M' => x = false ∧ DY F B M' ρ rest o) o.er) : DY F B M ρ (.If c A [] pos :: rest) o := by
  obtain ⟨t, pt, i⟩ := h
  refine dy_if ⟨t, pt, fun σ H Hd Q u a k1 k2 => i σ H Hd Q u a (fun b H' Hd' M' z x => k1 b H' Hd' M' ⟨fun e => ?_, fun _ => dy_nil z.2⟩ x) k2⟩
  rw [z.1] at e; cases e
theorem yt_cmp {op : CmpOp} {PB : Bool → Ms → Prop} {W : Addr → Ms → Prop} (ha : YE F M ρ a (fun x M1 => YE F M1 ρ b (fun y M2 => ∃ da db z, x = .da da ∧ y = .da db ∧ BinD F.X (compareOp op) da db (.bool z) ∧ PB z M2) W) W) (hm : behindInMarks op b = false := by first | exact nomark _ | rfl) : YT F M ρ (.Compare a [op] [b] pos) PB W := by
  obtain ⟨t, pe, i⟩ := ha
  refine ⟨_, pt_cmpR op_any pe pe_uE hm, fun σ H Hd Q u a0 k1 k2 => i σ H Hd _ u a0 (fun v H1 Hd1 x M1 z x1 s1 => ?_) k2⟩
  obtain ⟨t2, p2, i2⟩ := z
  refine ⟨t2, p2, i2 σ H1 Hd1 _ x1.u (at_ms x1 (a0.e.mono x1.g.dd)) (fun w H2 Hd2 y M2 z x2 s2 => ?_) fun C M2 H2 Hd2 z x2 => k2 C M2 H2 Hd2 z (x1.trans x2)⟩
  obtain ⟨da, db, dz, rfl, rfl, ⟨r, o, q⟩, hP⟩ := z
  obtain ⟨_, e1, d1⟩ := s1
  obtain ⟨_, e2, d2⟩ := s2
  cases e1; cases e2
  have x3 := x1.trans x2
  exact ⟨r, o, q v w H2 Hd2 _ x2.s (d1.mono x2.g.dd) d2 fun z H3 Hd3 g3 d3 => by
    cases d3
    exact ⟨dz, rfl, k1 dz H3 Hd3 M2 hP (x3.trans (.grw x3.m x3.u g3))⟩⟩
end
end Dv
namespace Dv
open PySem L2 PyProof.Rows
/-! ### words as records -/
structure Wd where
  k : Str
  m : Int
  r : Str
  h : Int
deriving DecidableEq
def wd (x : Wd) : PyData := wordD x.k x.m x.r x.h
def unl (a b : Wd) : Bool := unlikeB a.k a.m a.r a.h b.k b.m b.r b.h
def Wd.ok (x : Wd) : Prop := leafOk (.str x.k) ∧ leafOk (.str x.r)
theorem wd_dok {x : Wd} {n : Nat} (h : x.ok) : DOk (n + 1) (wd x) := dok_word h.1.2 h.2.2
theorem g_unlike_w {a b : Wd} : g_unlike [wd a, wd b] (.ok (.bool (unl a b))) := g_unlike_i
/-! ### pigeons -/
theorem nodup_le {l m : List Int} (hn : l.Nodup) (hs : ∀ x ∈ l, x ∈ m) : l.length ≤ m.length := by
  induction l generalizing m with
  | nil => exact Nat.zero_le _
  | cons x l ih =>
    have h := List.nodup_cons.mp hn
    have hx := hs x List.mem_cons_self
    have h2 := ih h.2 (m := m.erase x) fun y hy => by
      have hne : y ≠ x := fun e => h.1 (e ▸ hy)
      exact (List.mem_erase_of_ne hne).mpr (hs y (List.mem_cons_of_mem _ hy))
    rw [List.length_erase_of_mem hx] at h2
    have : 0 < m.length := List.length_pos_of_mem hx
    rw [List.length_cons]
    omega
theorem filter_two (p q : Int → Bool) : ∀ l : List Int, (l.filter p).length + (l.filter q).length ≤ (l.filter fun x => p x && q x).length + l.length
  | [] => Nat.le_refl _
  | x :: r => by
    have ih := filter_two p q r
    rw [List.filter_cons, List.filter_cons, List.filter_cons]
    cases p x <;> cases q x <;> simp <;> omega
/-! ### whom unlike words blame -/
abbrev Bl3 := Int × Wd × Wd
abbrev WP := Wd × Wd
def pairsW (ones others : List Wd) : List WP := ones.flatMap fun a => others.map fun b => (a, b)
def hit (h : Int) (p : WP) : Bool := unl p.1 p.2 && decide (p.1.h = h)
def fstW (ps : List WP) (h : Int) : Option WP := ps.find? (hit h)
def keyIn (E : List Bl3) (h : Int) : Bool := E.any fun e => decide (e.1 = h)
def stepB (E : List Bl3) (p : WP) : List Bl3 := if unl p.1 p.2 && !keyIn E p.1.h then E ++ [(p.1.h, p.1, p.2)] else E
def stepD (h : Int) (E : List Bl3) (p : WP) : List Bl3 := if decide (p.1.h = h) && (unl p.1 p.2 && !keyIn E h) then E ++ [(h, p.1, p.2)] else E
def dueW (n : Int) (ps : List WP) : List Bl3 := (rangeL 0 n).filterMap fun h => (fstW ps h).map fun p => (h, p.1, p.2)
def valB (E : List Bl3) (h : Int) : Option WP := (E.find? fun e => decide (e.1 = h)).map (·.2)
theorem keyIn_val (E : List Bl3) (h : Int) : keyIn E h = (valB E h).isSome := by
  induction E with
  | nil => rfl
  | cons e E ih =>
    unfold keyIn valB at ih ⊢
    rw [List.any_cons, List.find?_cons]
    cases q : decide (e.1 = h) with
    | true => rfl
    | false => exact ih
theorem valB_snoc (E : List Bl3) (h g : Int) (p : WP) (hn : keyIn E g = false) : valB (E ++ [(g, p.1, p.2)]) h = if g = h then some p else valB E h := by
  unfold valB
  rw [List.find?_append]
  by_cases e : g = h
  · subst e
    rw [if_pos rfl]
    have : E.find? (fun e => decide (e.1 = g)) = none := by
      rw [List.find?_eq_none]
      intro x hx q
      have := List.any_eq_false.mp hn x hx
      exact this q
    rw [this]
    simp
  · rw [if_neg e]
    have : List.find? (fun e => decide (e.1 = h)) [((g, p.1, p.2) : Bl3)] = none := by simp [e]
    rw [this]
    simp
/-- the dict behind the loops -/
theorem foldB_val (ps : List WP) : ∀ (E : List Bl3), (E.map (·.1)).Nodup → ((ps.foldl stepB E).map (·.1)).Nodup ∧ ∀ h, valB (ps.foldl stepB E) h = (valB E h).or (fstW ps h) := by
  induction ps with
  | nil => intro E hn; exact ⟨hn, fun h => by simp [fstW]⟩
  | cons p ps ih =>
    intro E hn
    rw [List.foldl_cons]
    cases hu : (unl p.1 p.2 && !keyIn E p.1.h) with
    | false =>
      have e : stepB E p = E := by unfold stepB; rw [hu]; rfl
      rw [e]
      obtain ⟨h1, h2⟩ := ih E hn
      refine ⟨h1, fun h => ?_⟩
      rw [h2 h]
      unfold fstW
      rw [List.find?_cons]
      cases hh : hit h p with
      | false => rfl
      | true =>
        unfold hit at hh
        rw [Bool.and_eq_true, decide_eq_true_eq] at hh
        rw [hh.1, Bool.true_and, Bool.not_eq_false', hh.2, keyIn_val] at hu
        obtain ⟨v, ev⟩ := Option.isSome_iff_exists.mp hu
        rw [ev]; rfl
    | true =>
      have e : stepB E p = E ++ [(p.1.h, p.1, p.2)] := by unfold stepB; rw [hu]; rfl
      rw [e]
      rw [Bool.and_eq_true, Bool.not_eq_true'] at hu
      have hn' : ((E ++ [((p.1.h, p.1, p.2) : Bl3)]).map (·.1)).Nodup := by
        rw [List.map_append]
        refine List.nodup_append.mpr ⟨hn, by simp, fun a ha b hb z => ?_⟩
        have hb : b = p.1.h := by simpa using hb
        obtain ⟨x, hx, e⟩ := List.mem_map.mp ha
        have := List.any_eq_false.mp hu.2 x hx
        exact this (decide_eq_true (by rw [e, z, hb]))
      obtain ⟨h1, h2⟩ := ih _ hn'
      refine ⟨h1, fun h => ?_⟩
      rw [h2 h, valB_snoc E h p.1.h p hu.2]
      unfold fstW
      rw [List.find?_cons]
      unfold hit
      by_cases hh : p.1.h = h
      · rw [if_pos hh, hu.1, decide_eq_true hh]
        have : valB E h = none := by
          have := keyIn_val E p.1.h
          rw [hu.2, hh] at this
          cases e2 : valB E h with
          | none => rfl
          | some v => rw [e2] at this; cases this
        rw [this]
        rfl
      · rw [if_neg hh, decide_eq_false hh, Bool.and_false]
theorem foldB_keys (ps : List WP) (n : Int) (hp : ∀ p ∈ ps, 0 ≤ p.1.h ∧ p.1.h < n) : ∀ (E : List Bl3), (∀ e ∈ E, 0 ≤ e.1 ∧ e.1 < n) → ∀ e ∈ ps.foldl stepB E, 0 ≤ e.1 ∧ e.1 < n := by
  induction ps with
  | nil => intro E h; exact h
  | cons p ps ih =>
    intro E h
    rw [List.foldl_cons]
    refine ih (fun q hq => hp q (List.mem_cons_of_mem _ hq)) _ fun e he => ?_
    unfold stepB at he
    split at he
    · rcases List.mem_append.mp he with z | z
      · exact h e z
      · rw [List.mem_singleton.mp z]; exact hp p List.mem_cons_self
    · exact h e he
theorem due_mem {n : Int} {ps : List WP} {e : Bl3} (h : e ∈ dueW n ps) : 0 ≤ e.1 ∧ e.1 < n ∧ fstW ps e.1 = some e.2 := by
  obtain ⟨x, hx, e1⟩ := List.mem_filterMap.mp h
  cases q : fstW ps x with
  | none => rw [q] at e1; cases e1
  | some p =>
    rw [q] at e1
    cases e1
    have := rangeL_mem.mp hx
    exact ⟨this.1, this.2, q⟩
theorem rangeL_sorted (a b : Int) : (rangeL a b).Pairwise (· < ·) := by
  unfold rangeL
  refine List.pairwise_map.mpr (List.pairwise_lt_range.imp fun h => by omega)
theorem due_keys (n : Int) (ps : List WP) : (dueW n ps).map (·.1) = (rangeL 0 n).filter fun h => (fstW ps h).isSome := by
  unfold dueW
  induction rangeL 0 n with
  | nil => rfl
  | cons x r ih =>
    rw [List.filterMap_cons, List.filter_cons]
    cases q : fstW ps x with
    | none => exact ih
    | some p => show x :: _ = x :: _; rw [ih]
theorem due_sorted (n : Int) (ps : List WP) : ((dueW n ps).map (·.1)).Pairwise (· ≤ ·) := by
  rw [due_keys]
  exact ((rangeL_sorted 0 n).imp fun h => Int.le_of_lt h).filter _
theorem due_perm {n : Int} {ps : List WP} (hp : ∀ p ∈ ps, 0 ≤ p.1.h ∧ p.1.h < n) : ((dueW n ps).map (·.1)).Perm ((ps.foldl stepB []).map (·.1)) := by
  obtain ⟨h1, h2⟩ := foldB_val ps [] List.nodup_nil
  refine (List.perm_ext_iff_of_nodup ?_ h1).mpr fun h => ?_
  · rw [due_keys]
    exact ((rangeL_sorted 0 n).imp fun h => Int.ne_of_lt h).filter _
  · rw [due_keys, List.mem_filter, rangeL_mem]
    have e := h2 h
    rw [show (valB [] h).or (fstW ps h) = fstW ps h from rfl] at e
    rw [← e, ← keyIn_val]
    constructor
    · rintro ⟨_, z⟩
      obtain ⟨x, hx, q⟩ := List.any_eq_true.mp z
      exact List.mem_map.mpr ⟨x, hx, of_decide_eq_true q⟩
    · intro z
      obtain ⟨x, hx, q⟩ := List.mem_map.mp z
      have := foldB_keys ps n hp [] (fun e he => nomatch he) x hx
      rw [q] at this
      exact ⟨this, List.any_eq_true.mpr ⟨x, hx, decide_eq_true q⟩⟩
/-- the law's own going, house by house -/
theorem keyIn_app (E G : List Bl3) (h : Int) : keyIn (E ++ G) h = (keyIn E h || keyIn G h) := List.any_append ..
theorem foldD_full (h : Int) (ps : List WP) : ∀ (E : List Bl3), keyIn E h = true → ps.foldl (stepD h) E = E := by
  induction ps with
  | nil => intro E _; rfl
  | cons p ps ih =>
    intro E he
    rw [List.foldl_cons]
    have : stepD h E p = E := by unfold stepD; rw [he]; simp
    rw [this]
    exact ih E he
theorem foldD_one (h : Int) (ps : List WP) : ∀ (E : List Bl3), keyIn E h = false → ps.foldl (stepD h) E = E ++ ((fstW ps h).map fun p => (h, p.1, p.2)).toList := by
  induction ps with
  | nil => intro E _; simp [fstW]
  | cons p ps ih =>
    intro E he
    rw [List.foldl_cons]
    unfold fstW
    rw [List.find?_cons]
    cases hh : hit h p with
    | false =>
      have : stepD h E p = E := by
        unfold stepD
        unfold hit at hh
        cases q : decide (p.1.h = h) with
        | false => rfl
        | true => rw [q, Bool.and_true] at hh; rw [hh]; rfl
      rw [this]
      exact ih E he
    | true =>
      unfold hit at hh
      rw [Bool.and_eq_true] at hh
      have : stepD h E p = E ++ [(h, p.1, p.2)] := by unfold stepD; rw [hh.1, hh.2, he]; rfl
      rw [this]
      refine foldD_full h ps _ ?_
      rw [keyIn_app]
      simp [keyIn]
theorem foldD_due (n : Int) (ps : List WP) : (rangeL 0 n).foldl (fun E h => ps.foldl (stepD h) E) [] = dueW n ps := by
  unfold dueW
  have : ∀ (l : List Int) (E : List Bl3), l.Nodup → (∀ h ∈ l, keyIn E h = false) → l.foldl (fun E h => ps.foldl (stepD h) E) E = E ++ l.filterMap fun h => (fstW ps h).map fun p => (h, p.1, p.2) := by
    intro l
    induction l with
    | nil => intro E _ _; simp
    | cons h l ih =>
      intro E hn hk
      have hn' := List.nodup_cons.mp hn
      rw [List.foldl_cons, foldD_one h ps E (hk h List.mem_cons_self), ih _ hn'.2 fun g hg => ?_]
      · rw [List.filterMap_cons]
        cases fstW ps h with
        | none => simp
        | some p => simp
      · rw [keyIn_app, hk g (List.mem_cons_of_mem _ hg)]
        cases q : fstW ps h with
        | none => rfl
        | some p =>
          have : h ≠ g := fun e => hn'.1 (e ▸ hg)
          simp [keyIn, this]
  have e := this (rangeL 0 n) [] ((rangeL_sorted 0 n).imp fun h => Int.ne_of_lt h) (fun _ _ => rfl)
  rw [e, List.nil_append]
end Dv
namespace Dv
open PySem PySem.Spec PyProof.Rows L2 Srt SrtO
/-! ### list.sort with a key that is called, item by item -/
theorem perm_pair {α β : Type} {R : α → β → Prop} {l' l : List α} (p : l'.Perm l) : ∀ {m : List β}, Paired R l m → ∃ m', m'.Perm m ∧ Paired R l' m' := by
  induction p with
  | nil => intro m h; cases h; exact ⟨[], .nil, .nil⟩
  | cons x p ih =>
    intro m h
    cases h with
    | cons a b =>
      obtain ⟨m', q1, q2⟩ := ih b
      exact ⟨_ :: m', q1.cons _, .cons a q2⟩
  | swap x y l =>
    intro m h
    cases h with
    | cons a b =>
      cases b with
      | cons c d => exact ⟨_, .swap _ _ _, .cons c (.cons a d)⟩
  | trans p q ih1 ih2 =>
    intro m h
    obtain ⟨m1, a1, a2⟩ := ih2 h
    obtain ⟨m2, b1, b2⟩ := ih1 a2
    exact ⟨m2, b1.trans a1, b2⟩
/-- a key and its item, as told and as they are -/
def KRel (p : Keyed) (q : Int × V) : Prop := (∃ t, p.1 = .int q.1 t) ∧ RelV q.2 p.2
theorem krel_zip : ∀ {kv : List Value} {ks : List Int} {its : List Value} {xs : List V}, IntsAre kv ks → Vals xs its → Paired KRel (kv.zip its) (ks.zip xs)
  | [], [], _, _, _, _ => by simp; exact .nil
  | [], _ :: _, _, _, h, _ => nomatch h
  | _ :: _, [], _, _, h, _ => nomatch h
  | k :: kv, n :: ks, [], xs, h1, h2 => by cases h2; exact .nil
  | k :: kv, n :: ks, u :: its, xs, h1, h2 => by
    cases h1 with
    | cons a t h1 =>
      cases h2 with
      | cons r h2 => exact .cons ⟨⟨_, rfl⟩, r⟩ (krel_zip h1 h2)
theorem krel_vals : ∀ {l : List Keyed} {m : List (Int × V)}, Paired KRel l m → Vals (m.map (·.2)) (l.map (·.2))
  | _, _, .nil => .nil
  | _, _, .cons a b => .cons a.2 (krel_vals b)
theorem krel_sorted : ∀ {l : List Keyed} {m : List (Int × V)}, Paired KRel l m → Srtd (lt2 ltIv) l → m.Pairwise fun p q => p.1 ≤ q.1
  | _, _, .nil, _ => .nil
  | x :: l, y :: m, .cons a b, h => by
    have h' := List.pairwise_cons.mp h
    refine List.pairwise_cons.mpr ⟨fun z hz => ?_, krel_sorted b h'.2⟩
    have mem : ∀ {l : List Keyed} {m : List (Int × V)}, Paired KRel l m → ∀ z ∈ m, ∃ w ∈ l, KRel w z := by
      intro l m p
      induction p with
      | nil => intro z hz; cases hz
      | cons a b ih =>
        intro z hz
        rcases List.mem_cons.mp hz with e | e
        · subst e; exact ⟨_, List.mem_cons_self, a⟩
        · obtain ⟨w, h1, h2⟩ := ih z e
          exact ⟨w, List.mem_cons_of_mem _ h1, h2⟩
    obtain ⟨w, hw, ⟨t, e⟩, _⟩ := mem b z hz
    obtain ⟨t', e'⟩ := a.1
    have q := h'.1 w hw
    have q : ltIv w.1 x.1 = false := q
    rw [e, e'] at q
    have : ¬ (z.1 < y.1) := of_decide_eq_false q
    omega
section
variable {X : Cx} {pins : List (Addr × Obj)} {σ : L2.St} {H : Hp} {s : Shared} {A : Around} {fV : Value} {E : Value → Shared → Prop}
/-- a key's call: it gives k, and changes nothing that is told -/
def KeyCall (X : Cx) (pins : List (Addr × Obj)) (σ : L2.St) (H : Hp) (A : Around) (fV u : Value) (k : Int) : Prop :=
  ∀ s' H', Inv X pins σ H' s' → (∀ b o, H b = some o → H' b = some o) → wpAny (model X.prog X.w) A (call fV [u]) (fun kv s'' => ∃ t H2, kv = .int k t ∧ Inv X pins σ H2 s'' ∧ ∀ b o, H' b = some o → H2 b = some o) (fun _ _ => False) s'
def KeyEnd (X : Cx) (pins : List (Addr × Obj)) (σ : L2.St) (H : Hp) (a : Addr) (ks : List Int) (xs : List V) (R : PySem.Fin → Shared → Prop) : Prop :=
  ∀ (zs : List (Int × V)) (s' : Shared) (H'' : Hp), zs.Perm (ks.zip xs) → zs.Pairwise (fun p q => p.1 ≤ q.1) → Inv X pins σ H'' s' → (∀ b o, b ≠ a → H b = some o → H'' b = some o) → H'' a = some (.lst (zs.map (·.2))) → R (.done (.ret .none)) s'
theorem keyed_tail {a kS : Addr} {e1 : Nat} {st : SortSt} {kv : List Value} {ks : List Int} {xs : List V} {its : List Value} {R : PySem.Fin → Shared → Prop} {H' : Hp} (I : Inv X pins σ H' s) (hfz : ∀ o' u', X.H_0 a ≠ some (.frz o' u'))
    (ha : H' a = some (.frz (seqObj "list" #[] e1) (.lst []))) (hk : H' kS = some (.lst (ks.map V.int))) (hka : kS ≠ a) (hz : xs.length ≤ sizeLine) (hl : ks.length = xs.length) (hv : Vals xs its) (hi : IntsAre kv ks)
    (hp : (arrOf st).toList.Perm (kv.zip its)) (hs : Srtd (lt2 ltIv) (arrOf st).toList) (hf : failedOf st = none) (hH : ∀ b o, b ≠ a → H b = some o → b ≠ kS ∧ H' b = some o)
    (h : KeyEnd X pins σ H a ks xs R) : wpAny (model X.prog X.w) A (ksk_tail a false e1 (.ref kS) st) R E s := by
  obtain ⟨zs, hp2, hr⟩ := perm_pair hp (krel_zip hi hv)
  have hlz : zs.length = xs.length := by rw [hp2.length_eq, List.length_zip, hl, Nat.min_self]
  have hkz := (I.lstM hk).1
  obtain ⟨n, hk2⟩ : ∃ (itK : List Value) (n : Nat), (Vals (ks.map V.int) itK) ∧ (ks.map V.int).length = itK.length ∧ s.heap.get? kS = some { cls := .type "list", data := .seq itK.toArray n } := by
    obtain ⟨_, itK, n, q1, q2, q3⟩ := I.lstM hk
    exact ⟨itK, n, q1, q2, q3⟩
  obtain ⟨n2, q1, q2, q3⟩ := hk2
  have hout : ((arrOf st).map (·.2)).size = xs.length := by
    rw [Array.size_map, ← Array.length_toList, hp.length_eq, List.length_zip, hi.length, ← hv.length, hl, Nat.min_self]
  unfold ksk_tail
  try dsimp only
  refine wpAny_bind (listUpdate_at q3 rfl ?_ (by rw [List.size_toArray, ← q2]; exact hkz) (Nat.zero_le _))
  have I1 := I.lset (its' := []) (ys := []) (f := fun _ => #[]) (t' := s.toks) hk q3 rfl .nil (Nat.zero_le _)
  refine wpAny_bind (wpAny_letGo ?_)
  have ha1 : upd H' kS (.lst []) a = some (.frz (seqObj "list" #[] e1) (.lst [])) := by rw [upd_ne (fun z => hka z.symm)]; exact ha
  have ga := (I1.hok a _ ha1).1
  refine wpAny_bind (seqEpoch_at ga rfl ?_)
  have I2 := I1.unlock ha1 hfz
  refine wpAny_bind (listUpdate_at ga rfl ?_ (Nat.zero_le _) (by show ((arrOf st).map (·.2)).size ≤ _; rw [hout]; omega))
  rw [hf]
  simp only [bne_self_eq_false, Bool.false_eq_true, if_false]
  have I3 := I2.lset (its := []) (its' := (arrOf st).toList.map (·.2)) (ys := zs.map (·.2)) (f := fun _ => (arrOf st).map (·.2)) (t' := s.toks) upd_same ga (by show (arrOf st).map (·.2) = _; rw [← Array.toList_map, Array.toArray_toList]) (krel_vals hr) (by rw [List.length_map, hlz]; exact hz)
  refine wpAny_pure (h zs _ _ hp2 (krel_sorted hr hs) I3 (fun b o hb e => ?_) upd_same)
  obtain ⟨hb2, e2⟩ := hH b o hb e
  rw [upd_ne hb, upd_ne hb, upd_ne hb2]
  exact e2
theorem keyed_end {a kS : Addr} {e1 : Nat} {kv : List Value} {ks : List Int} {xs : List V} {its : List Value} {R : PySem.Fin → Shared → Prop} {H' : Hp} (I : Inv X pins σ H' s) (hfz : ∀ o' u', X.H_0 a ≠ some (.frz o' u'))
    (ha : H' a = some (.frz (seqObj "list" #[] e1) (.lst []))) (hk : H' kS = some (.lst (ks.map V.int))) (hka : kS ≠ a) (hz : xs.length ≤ sizeLine) (hl : ks.length = xs.length) (hv : Vals xs its) (hi : IntsAre kv ks) (hH : ∀ b o, b ≠ a → H b = some o → b ≠ kS ∧ H' b = some o)
    (h : KeyEnd X pins σ H a ks xs R) : wpAny (model X.prog X.w) A (ksk_end a false its.toArray e1 (.ref kS) kv.toArray) R E s := by
  have hzl : (kv.toArray.zip its.toArray).toList = kv.zip its := by rw [ksk_zip]
  have hil : its.length = xs.length := hv.length.symm
  have hkl : kv.length = its.length := by rw [hi.length, hl, hil]
  unfold ksk_end
  try dsimp only
  simp only [Bool.false_eq_true, if_false]
  by_cases h2 : its.toArray.size < 2
  · rw [if_pos h2, if_pos h2]
    refine wpAny_bind (wpAny_pure ?_)
    rw [StateT.run_pure]
    refine wpAny_bind (wpAny_pure ?_)
    try dsimp only
    refine keyed_tail (st := SortSt.mk' general' (kv.toArray.zip its.toArray) #[] 7 none) I hfz ha hk hka hz hl hv hi (.of_eq hzl) ?_ rfl hH h
    show Srtd (lt2 ltIv) (kv.toArray.zip its.toArray).toList
    rw [hzl]
    rw [List.size_toArray] at h2
    have hzz : (kv.zip its).length < 2 := by rw [List.length_zip]; omega
    match hq : kv.zip its, hzz with
    | [], _ => exact .nil
    | [v], _ => exact List.pairwise_singleton _ _
    | _ :: _ :: l, z => exact absurd z (by rw [List.length_cons, List.length_cons]; omega)
  · rw [if_neg h2, if_neg h2]
    rw [List.size_toArray] at h2
    obtain ⟨κ, hkind, hT⟩ := ints_sortable (prog := X.prog) (w := X.w) (A := A) (s := s) (a := a) hi (by omega) s.heap (fun _ _ _ e => e)
    refine wpAny_bind (hkind _ _ ?_)
    have hall : AllL (fun p : Keyed => p.1 ∈ kv) (kv.toArray.zip its.toArray).toList := fun p hm => by
      rw [hzl] at hm
      exact (List.of_mem_zip hm).1
    refine wpAny_bind (wpAny_mono (wpS_sortO (st0 := SortSt.mk' κ (kv.toArray.zip its.toArray) #[] 7 none)
      (Q := fun _ st' => Srtd (lt2 ltIv) (arrOf st').toList ∧ Stb (lt2 ltIv) (arrOf st').toList (kv.toArray.zip its.toArray).toList ∧ failedOf st' = none) (swo2 swo_int) hT rfl hall rfl rfl fun st' a1 a2 a3 => ⟨a1, a2, a3⟩) ?_ fun _ _ e => e)
    rintro ⟨⟨⟩, st'⟩ s' ⟨es, hp1, hp2, hf⟩
    cases es
    try dsimp only
    have hpp := hp2.perm
    rw [hzl] at hpp
    exact keyed_tail I hfz ha hk hka hz hl hv hi hpp hp1 hf hH h
theorem ints_snoc : ∀ {vs : List Value} {ns : List Int} {n : Int} {t : Tok}, IntsAre vs ns → IntsAre (vs ++ [.int n t]) (ns ++ [n]) := fun h => ksk_snoc h
theorem ints_vals : ∀ {vs : List Value} {ns : List Int}, IntsAre vs ns → Vals (ns.map V.int) vs
  | _, _, .nil => .nil
  | _, _, .cons n t h => .cons ⟨t, rfl⟩ (ints_vals h)
theorem keyed_sort {a : Addr} {n : Nat} {ks : List Int} {xs : List V} {its : List Value} {R : PySem.Fin → Shared → Prop} {pinsF : List (Addr × Obj)} (I : Inv X pins σ H s) (ha : H a = some (.lst xs)) (he : s.heap.get? a = some { cls := .type "list", data := .seq its.toArray n }) (hv : Vals xs its)
    (hl : ks.length = xs.length) (turn : ∀ (i : Nat) (u : Value) (k : Int), its[i]? = some u → ks[i]? = some k → KeyCall X pins σ (fun b => if b = a then none else H b) A fV u k) (h : KeyEnd X pins σ H a ks xs R) :
    wpAny (model X.prog X.w) A (ksk_tree a fV false) R E s := by
  have hz := (I.lstM ha).1
  have hil : its.length = xs.length := hv.length.symm
  have hfz : ∀ o' u', X.H_0 a ≠ some (.frz o' u') := I.nofrz ha trivial
  unfold ksk_tree
  refine wpAny_bind (listItems_at he rfl ?_)
  refine wpAny_bind (listUpdate_at he rfl ?_ (by rw [List.size_toArray, hil]; exact hz) (Nat.zero_le _))
  have I1 := I.lset (its' := []) (ys := []) (f := fun _ => #[]) (t' := s.toks) ha he rfl .nil (Nat.zero_le _)
  obtain ⟨e1, ho1⟩ : ∃ e1, (s.heap.update a (Obj.mapSeq fun _ => (#[] : Array Value))).get? a = some (seqObj "list" #[] e1) := ⟨_, get?_update_seq he (fun _ => #[])⟩
  refine wpAny_bind (seqEpoch_at ho1 rfl ?_)
  refine wpAny_bind (wpAny_newTuple ?_ (by show its.length ≤ _; rw [hil]; exact hz))
  refine wpAny_bind (wpAny_newList ?_ (Nat.zero_le _))
  refine wpAny_holding ?_
  obtain ⟨od, I2⟩ := I1.lock (d := a) (u := .lst []) upd_same trivial
  have eod : od = seqObj "list" #[] e1 := by
    have q := (I2.hok a _ upd_same).1
    have q2 : (s.heap.update a (Obj.mapSeq fun _ => (#[] : Array Value))).get? a = some od := q
    rw [ho1] at q2
    exact (Option.some.inj q2).symm
  subst eod
  have I3 := I2.kept (h' := (s.heap.update a (Obj.mapSeq fun _ => (#[] : Array Value))).push (seqObj "tuple" its.toArray 0)) (t' := s.toks) fun b u e => Heap.get?_push_of_some _ e
  have I4 := I3.lnew (its := []) (ys := []) (t' := s.toks) .nil (Nat.zero_le _)
  have fk := I3.fresh
  obtain ⟨kS, hkS⟩ : ∃ kS, ((s.heap.update a (Obj.mapSeq fun _ => (#[] : Array Value))).push (seqObj "tuple" its.toArray 0)).objs.size = kS := ⟨_, rfl⟩
  have I4 : Inv X pins σ (upd (upd (upd H a (.lst [])) a (.frz (seqObj "list" #[] e1) (.lst []))) kS (.lst [])) { s with heap := ((s.heap.update a (Obj.mapSeq fun _ => (#[] : Array Value))).push (seqObj "tuple" its.toArray 0)).push (seqObj "list" #[] 0) } := by
    rw [← hkS]; exact I4
  have fk : upd (upd H a (.lst [])) a (.frz (seqObj "list" #[] e1) (.lst [])) kS = none := by rw [← hkS]; exact fk
  have hka : kS ≠ a := fun z => by rw [z, upd_same] at fk; cases fk
  have hHk : ∀ b o, b ≠ a → H b = some o → b ≠ kS := fun b o hb e z => by
    rw [← z, upd_ne hb, upd_ne hb, e] at fk
    cases fk
  show wpAny _ _ (ksk_rest a fV false its.toArray e1 (.ref ((s.heap.update a (Obj.mapSeq fun _ => (#[] : Array Value))).push (seqObj "tuple" its.toArray 0)).objs.size)) R E _
  rw [hkS]
  unfold ksk_rest
  refine wpAny_bind (wpAny_rule ?_)
  first
    | rw [List.forIn_toArray]
    | (rw [← Array.forIn_toList]; simp only [List.toList_toArray])
  refine wpAny_bind (ksk_fold (fun i s' => ∃ (H' : Hp) (kA : List Value) (m : Nat), Inv X pins σ H' s' ∧ H' a = some (.frz (seqObj "list" #[] e1) (.lst [])) ∧ H' kS = some (.lst ((ks.take i).map V.int)) ∧ s'.heap.get? kS = some { cls := .type "list", data := .seq kA.toArray m } ∧ IntsAre kA (ks.take i) ∧ ∀ b o, b ≠ a → H b = some o → H' b = some o) its 0 _
    ⟨_, [], 0, I4, by rw [upd_ne (fun z => hka z.symm), upd_same], upd_same, by rw [← hkS]; exact Heap.get?_push_size _ rfl, .nil, fun b o hb e => by rw [upd_ne (hHk b o hb e), upd_ne hb, upd_ne hb]; exact e⟩ ?step ?done)
  case step =>
    rintro j x s' hx ⟨H', kA, m, J, ja, jk, je, ji, jH⟩
    simp only [Nat.zero_add] at jk ji ⊢
    have hj : j < its.length := (List.getElem?_eq_some_iff.mp hx).1
    obtain ⟨k, hkj⟩ : ∃ k, ks[j]? = some k := ⟨_, List.getElem?_eq_getElem (by omega)⟩
    have hkl : kA.length ≤ xs.length := by
      have := ji.length
      rw [List.length_take] at this
      omega
    refine wpAny_bind (wpAny_attempt (wpAny_mono (turn j x k hx hkj s' H' J (fun b o e => ?_)) (fun v s'' he => ?_) fun _ _ hF => hF.elim))
    · have e : (if b = a then none else H b) = some o := e
      by_cases hb : b = a
      · rw [if_pos hb] at e; cases e
      · rw [if_neg hb] at e; exact jH b o hb e
    · obtain ⟨t, H2, rfl, J2, sm⟩ := he
      have jk := sm _ _ jk
      have ja := sm _ _ ja
      try dsimp only
      obtain ⟨_, itK, n3, v1, v2, v3⟩ := J2.lstM jk
      have ek : ks.take (j + 1) = ks.take j ++ [k] := by rw [List.take_add_one, hkj]; simp
      refine wpAny_bind (listUpdate_at v3 rfl ?_ (by rw [List.size_toArray, ← v2, List.length_map, List.length_take]; omega) (by show (itK.toArray.push _).size ≤ _; rw [Array.size_push, List.size_toArray, ← v2, List.length_map, List.length_take]; omega))
      have hv1 : Vals [V.int k] [Value.int k t] := .cons ⟨t, rfl⟩ .nil
      have J3 := J2.lset (its' := itK ++ [.int k t]) (ys := (ks.take j).map V.int ++ [.int k]) (f := (·.push (.int k t))) (t' := s''.toks) jk v3 (by simp) (v1.append hv1) (by rw [List.length_append, List.length_map, List.length_take, List.length_singleton]; omega)
      obtain ⟨c2, hc2⟩ : ∃ c2, (s''.heap.update kS (Obj.mapSeq (·.push (.int k t)))).get? kS = some (seqObj "list" (itK.toArray.push (.int k t)) c2) := ⟨_, get?_update_seq v3 (·.push (.int k t))⟩
      have iK := Vals.ints v1
      refine wpAny_pure ⟨rfl, _, itK ++ [.int k t], c2, J3, by rw [upd_ne (fun z => hka z.symm)]; exact ja, by rw [upd_same, ek, List.map_append]; rfl, by rw [hc2]; simp [seqObj], by rw [ek]; exact ksk_snoc iK, fun b o hb e => by rw [upd_ne (hHk b o hb e)]; exact sm _ _ (jH b o hb e)⟩
  case done =>
    rintro s' ⟨H', kA, m, J, ja, jk, je, ji, jH⟩
    have e3 : ks.take (0 + its.length) = ks := List.take_of_length_le (by omega)
    rw [e3] at jk ji
    try dsimp only
    refine wpAny_bind (listItems_at je rfl ?_)
    exact keyed_end J hfz ja jk hka hz hl hv ji (fun b o hb e => ⟨hHk b o hb e, jH b o hb e⟩) h
end
end Dv
namespace Dv
open PySem PySem.Spec PyProof.Rows L2
/-! ### sorted(e, key=lambda y: ..) -/
abbrev lamQ (X : Cx) : Str := X.env.qual ++ "<lambda>"
/-- a lambda without names of outer defs is made: all stays but the maker's table -/
theorem lam_made {X : Cx} {pins : List (Addr × Obj)} {σ : L2.St} {H : Hp} {s : Shared} {c P : Addr} {params : Arguments} {body : Expr} {scope : Scope} {pos : Pos} {E Q : Value → Shared → Prop} (I : L2.Inv X pins σ H s) (TB : LamX.TabB X.base X.mg c P) (hcode : X.env.code = .ref c)
    (hT : LamX.TabS H P (lamQ X)) (hdef : defaultsOf params X.env = ([], [])) (hcl : closureFor scope X.env = pure [])
    (h : ∀ (f c' : Addr) (pm ctv : Value) (H1 : Hp) (s' : Shared), L2.Inv X pins σ H1 s' → (∀ b o, b ≠ P → H b = some o → H1 b = some o) → LamX.TabS H1 P (lamQ X) → s.heap.objs.size ≤ f → s'.heap.get? f = some (PySem.W.kla_obj "<lambda>" (lamQ X) params body scope [] pm c' ctv) → H1 f = none →
      H1 c' = some (LamX.CodeO c' (lamQ X)) → Q (.ref f) s') : wpAny (model X.prog X.w) X.A (eval (.Lambda params body scope pos) X.env) Q E s := by
  obtain ⟨ps, hP, ht, ha⟩ := hT
  have gP : s.heap.get? P = some { cls := .none, data := .fields ps } := I.hok P _ hP
  have bP := TB.bm.keeps I.bk
  refine PySem.W.kla_eval hdef ?_
  rcases hc : codeAmong pos ps.toList with _ | cv
  · refine PySem.W.kla_makeFunction (c := c) hcl I.ok.glob (I.mod.glob.keeps I.bk) hcode (TB.code.keeps I.bk) gP ht hc TB.gP bP fun c' ctv h' tk hx hge hlt ⟨_, oc, vs, t, e2, hoc, hd, hv⟩ htb => ?_
    cases e2
    have nC : H c' = none := I.hok.fresh hge
    have nP : c' ≠ P := fun z => by rw [z, hP] at nC; cases nC
    have J := LamX.inv_table (q := lamQ X) (t' := tk) (h' := h'.push (PySem.W.kla_obj "<lambda>" (lamQ X) params body scope [] ((X.mg "__name__").getD .none) c' ctv)) I hP (fun b o hb e => Heap.get?_push_of_some _ (hx b o hb e)) (Heap.get?_push_of_some _ htb) hge ⟨oc, vs, t, Heap.get?_push_of_some _ hoc, hd, hv⟩
    have keep : ∀ b o, b ≠ P → H b = some o → upd (upd H P (.tbl (ps ++ #[rawInt pos.line, rawInt pos.col, .ref c']))) c' (LamX.CodeO c' (lamQ X)) b = some o := fun b o hb e => by
      rw [upd_ne (fun z => by rw [z, nC] at e; cases e), upd_ne hb]; exact e
    have hsz : s.heap.objs.size ≤ h'.objs.size := Nat.le_trans hge (Nat.le_of_lt hlt)
    refine h _ c' _ ctv _ _ J keep ⟨_, by rw [upd_ne nP.symm, upd_same], ?_, ?_⟩ hsz (Heap.get?_push_size _ rfl) ?_ upd_same
    · rw [Array.toList_append]; exact PySem.TriplesOk_snoc _ _ _ _ ht
    · intro p' cv hcv
      rw [Array.toList_append] at hcv
      rcases LamX.among_app _ ht hcv with z | z
      · obtain ⟨c0, e1, e2⟩ := ha p' cv z
        exact ⟨c0, e1, keep c0 _ (fun w => by rw [w, hP] at e2; cases e2) e2⟩
      · exact ⟨c', z, upd_same⟩
    · rw [upd_ne (Nat.ne_of_gt hlt), upd_ne (fun z => absurd (Nat.lt_of_lt_of_le (Heap.lt_size gP) hsz) (by rw [← z]; exact Nat.lt_irrefl _))]
      exact I.hok.fresh hsz
  · obtain ⟨c', rfl, hco⟩ := ha pos cv hc
    refine PySem.W.kla_makeFunctionHit (c := c) hcl I.ok.glob (I.mod.glob.keeps I.bk) hcode (TB.code.keeps I.bk) gP ht hc bP fun ctv h' tk hx hsz => ?_
    have J := I.kept (h' := h'.push (PySem.W.kla_obj "<lambda>" (lamQ X) params body scope [] ((X.mg "__name__").getD .none) c' ctv)) (t' := tk) fun b o e => Heap.get?_push_of_some _ (hx b o e)
    exact h _ c' _ ctv H _ J (fun _ _ _ e => e) ⟨ps, hP, ht, ha⟩ hsz (Heap.get?_push_size _ rfl) (I.hok.fresh hsz) hco
theorem noCX' {P : Program} {w : World} {o : List Env} {H : Hp} {s s' : Shared} {e : Value} (h : L2N.CX P w o H s (fun _ _ _ => False) e s') : False := by
  obtain ⟨_, _, _, _, _, _, _, _, _, _, _, _, z⟩ := h
  exact z
/-- what the body tells of an item d -/
def BodyOk (P : Program) (w : World) (K : PySem.W.Frag) (mg : Str → Option Value) (base : Heap) (y : Str) (q : Str) (scope : Scope) (body : Expr) (bl : Bl mg) (nd : [y].Nodup) (d : PyData) (k : Int) : Prop :=
  ∀ (cd : Value) (f : Addr) (A : Around) (outer : List Env) (s : Shared) (H : Hp) (E : XK) (hu : (A.deeper (envOfC q scope s.heap.objs.size f cd)).units + 128 < cLine), DE (frOf P w K mg base [y] q scope f cd A outer s H E hu bl nd) [.da d] body (.ok (.int k))
theorem lam_key {X : Cx} {pins : List (Addr × Obj)} {σ : L2.St} {H Hd : Hp} {A : Around} {f c' : Addr} {pm ctv : Value} {params : Arguments} {body : Expr} {scope : Scope} {y : Str} {u : Value} {v : V} {d : PyData} {k : Int} {j : Nat} (S : FnScope [y] [y] scope) (bl : Bl X.mg)
    (hp : (f, PySem.W.kla_obj "<lambda>" (lamQ X) params body scope [] pm c' ctv) ∈ pins) (hco : H c' = some (LamX.CodeO c' (lamQ X))) (hbind : ∀ (pm cv ctv : Value), bindArgs (PySem.W.kla_fn "<lambda>" (lamQ X) params body scope [] pm cv ctv) ⟨[u], []⟩ = pure [(y, u)])
    (r : RelV v u) (sd : Same Hd H) (dv : Dt X.K Hd v d) (hr : Room (j + 1) A) (e0 : ∀ {s : Shared} {H : Hp}, L2.Inv X pins σ H s → Env0 X.prog X.w X.K X.mg X.base A X.stack s H) (hb : BodyOk X.prog X.w X.K X.mg X.base y (lamQ X) scope body bl S.nd d k) : KeyCall X pins σ H A (.ref f) u k := by
  intro s' H' J hsub
  have of1 := (J.pin _ (List.mem_append_right _ hp)).1
  obtain ⟨⟨oc, vs, t, hoc, hdc, hvc⟩, _, _⟩ := J.hok c' _ (hsub _ _ hco)
  have rc : codeAny (model X.prog X.w) A (.call (.ref f) ⟨[u], []⟩) (CR (L2N.CX X.prog X.w) X.stack X.prog X.w H' s' (fun v H2 => v = .int k ∧ Same H' H2) (fun _ _ _ => False)) s' := by
    refine PySem.W.kla_callFunE hr.depth of1 rfl S.co S.gen rfl ⟨c', oc, vs, t, rfl, hoc, hdc, hvc⟩ ?_
    rw [hbind]
    refine wpAny_pure (wpAny_newFunctionEnv_cells S.kind (fun x hx => ?_) fun env he s1 x => ?_)
    · rw [List.mem_singleton.mp hx]
      rcases S.par y List.mem_cons_self with z | z
      · exact .inl z
      · exact .inr ⟨z, PySem.W.cellsFrom_some _ _ _ (.inl z)⟩
    subst he
    refine ⟨(J.nolimit).keeps x.toInCall.keep, ?_⟩
    have hr' := hr.deeper (envOfC (lamQ X) scope s'.heap.objs.size f (.ref c'))
    have I1 : L2.Inv (cxOf (L2N.CX X.prog X.w) X.prog X.w X.K X.mg X.base [y] (lamQ X) scope f (.ref c') A X.stack s' H' (fun _ _ _ => False)) [] (L2.start [y] [v]) H' s1 := inv_start (us := [u]) S hr.hd (e0 J) rfl (.cons r .nil) x
    have hbd := (hb (.ref c') f A X.stack s' H' (fun _ _ _ => False) (by have := hr'.un; omega)).pe.run [] s1 _ H' (fun v H2 => v = .int k ∧ Same H' H2) I1 ⟨Hd, ⟨sd.trans hsub, .cons ⟨v, rfl, dv⟩ .nil, trivial⟩, fun w H2 Hd2 g2 d2 => by cases d2; exact ⟨rfl, g2.hh⟩⟩
    show codeAny _ _ (.expr body (envOfC (lamQ X) scope s'.heap.objs.size f (.ref c'))) _ _
    refine PySem.W.kla_codeExpr (wpAny_mono hbd (fun w s2 hq => ?_) fun e s2 hq => hq)
    obtain ⟨w', H2, J2, rv, q⟩ := hq
    exact ⟨w', H2, J2.os, J2.bare, J2.base, J2.hok, rv, q⟩
  refine wpAny_call (codeAny_mono rc fun rr s2 hq => ?_)
  cases rr with
  | error e => exact (noCX' hq).elim
  | ok fl =>
    cases fl with
    | ret u2 =>
      obtain ⟨w', H2, J2, rv, ⟨e1, sm⟩⟩ := J.after hq
      subst e1
      obtain ⟨t, rfl⟩ := rv
      exact ⟨t, H2, rfl, J2, sm⟩
    | next => exact False.elim hq
    | brk => exact False.elim hq
    | cont => exact False.elim hq
end Dv
namespace Dv
open PySem PySem.Spec PyProof.Rows L2
/-- sorted of data by a lambda's keys, these all different: L the items with their keys, L' in order -/
def SortPost (X : Cx) (P : Addr) (y : Str) (scope : Scope) (body : Expr) (bl : Bl X.mg) (nd : [y].Nodup) (Q : VK) : VK := fun x H1 => ∃ (Hd : Hp) (L L' : List (Int × PyData)), Same Hd H1 ∧ Hd P = none ∧ Dt X.K Hd x (.list (L.map (·.2))) ∧ LamX.TabS H1 P (lamQ X) ∧
  (∀ e ∈ L, BodyOk X.prog X.w X.K X.mg X.base y (lamQ X) scope body bl nd e.2 e.1) ∧ L'.Perm L ∧ L'.Pairwise (fun a b => a.1 < b.1) ∧
  ∀ (H2 : Hp) (p : Addr) (vs : List V), (∀ b o, b ≠ P → H1 b = some o → H2 b = some o) → LamX.TabS H2 P (lamQ X) → H1 p = none → H2 p = some (.lst vs) → DtA X.K Hd vs (L'.map (·.2)) → Q (.ref p) H2
def tSortLam (X : Cx) (P : Addr) (y : Str) (scope : Scope) (body : Expr) (bl : Bl X.mg) (nd : [y].Nodup) (te : TE) : TE := fun σ H Q => te σ H (SortPost X P y scope body bl nd Q)
def onOne (q : VK) : List V → Hp → Prop := fun vs H => match vs with
  | [x] => q x H
  | _ => False
theorem strict_one : ∀ {a b : List (Int × PyData)}, a.Perm b → a.Pairwise (fun x y => x.1 ≤ y.1) → b.Pairwise (fun x y => x.1 < y.1) → a = b
  | [], b, p, _, _ => (List.nil_perm.mp p).symm
  | x :: xs, [], p, _, _ => absurd p.length_eq (by simp)
  | x :: xs, y :: ys, p, ha, hb => by
    have h1 := List.pairwise_cons.mp ha
    have h2 := List.pairwise_cons.mp hb
    have e : x = y := by
      have m1 : y ∈ x :: xs := p.mem_iff.mpr List.mem_cons_self
      have m2 : x ∈ y :: ys := p.mem_iff.mp List.mem_cons_self
      rcases List.mem_cons.mp m2 with z | z
      · exact z
      · rcases List.mem_cons.mp m1 with q | q
        · exact q.symm
        · have := h1.1 y q
          have := h2.1 x z
          omega
    subst e
    rw [strict_one (p.cons_inv) h1.2 h2.2]
theorem dta_pair {K : PySem.W.Frag} {Hd : Hp} : ∀ {vs : List V} {L : List (Int × PyData)}, DtA K Hd vs (L.map (·.2)) → Paired (fun (a : Int × V) (b : Int × PyData) => a.1 = b.1 ∧ Dt K Hd a.2 b.2) ((L.map (·.1)).zip vs) L
  | [], [], _ => .nil
  | v :: vs, e :: L, h => by
    cases h with
    | cons a b => exact .cons ⟨rfl, a⟩ (dta_pair b)
  | [], _ :: _, h => nomatch h
  | _ :: _, [], h => nomatch h
theorem pair_fst {K : PySem.W.Frag} {Hd : Hp} : ∀ {zs : List (Int × V)} {L : List (Int × PyData)}, Paired (fun (a : Int × V) (b : Int × PyData) => a.1 = b.1 ∧ Dt K Hd a.2 b.2) zs L → zs.map (·.1) = L.map (·.1) ∧ DtA K Hd (zs.map (·.2)) (L.map (·.2))
  | _, _, .nil => ⟨rfl, .nil⟩
  | _, _, .cons a b => ⟨by rw [List.map_cons, List.map_cons, a.1, (pair_fst b).1], .cons a.2 (pair_fst b).2⟩
theorem pe_sortLam {X : Cx} {e : Expr} {te : TE} {params : Arguments} {body : Expr} {scope : Scope} {y : Str} {c P : Addr} {j : Nat} {p lpos kpos pos : Pos} (hg : Gl X "sorted") (he : PE X e te) (TB : LamX.TabB X.base X.mg c P) (hcode : X.env.code = .ref c) (hdef : defaultsOf params X.env = ([], [])) (hcl : closureFor scope X.env = pure [])
    (S : FnScope [y] [y] scope) (bl : Bl X.mg) (hbind : ∀ (u pm cv ctv : Value), bindArgs (PySem.W.kla_fn "<lambda>" (lamQ X) params body scope [] pm cv ctv) ⟨[u], []⟩ = pure [(y, u)]) (hr : Room (j + 3) X.A)
    (h1 : backTo pos (starEach [e] X.env) = (false, eval e X.env) :: backTo pos (starEach [] X.env) := by rfl) (h2 : (backTo pos (starEach [e] X.env)).any (·.1) = false := by rfl) (hs1 : starEach [e] X.env = (false, eval e X.env) :: starEach [] X.env := by rfl)
    (h3 : (backToKw pos (keywordEach [⟨some "key", .Lambda params body scope lpos, kpos⟩] X.env)).all (·.1.isSome) = true := by rfl) (h4 : (backToKw pos (keywordEach [⟨some "key", .Lambda params body scope lpos, kpos⟩] X.env)).any (·.1.isNone) = false := by rfl) :
    PE X (.Call (.Name "sorted" p) [e] [⟨some "key", .Lambda params body scope lpos, kpos⟩] pos) (tSortLam X P y scope body bl S.nd te) := by
  refine ⟨fun pins s σ H Q I h => ?_⟩
  refine wpAny_Call_Name_kw (ld_blt I hg bl.sorted (by decide +kernel : bootBuiltins "sorted" = some (.builtin "sorted")) ?_ (by decide) (by decide))
  refine PyProof.Rows.callWith_kw (thn ((pa_cons he pa_nil hs1).run pos pins s σ H (onOne (SortPost X P y scope body bl S.nd Q)) I h) fun us s1 ⟨vs, H1, I1, r1, q1⟩ => ?_) h1 h2 h3 h4
  obtain ⟨x, rfl⟩ : ∃ x, vs = [x] := by
    match vs, q1 with
    | [x], _ => exact ⟨x, rfl⟩
    | [], z => exact z.elim
    | _ :: _ :: _, z => exact z.elim
  obtain ⟨Hd, L, L', sd, nP, dx, hT, hL, hp, hs, k⟩ := (show SortPost X P y scope body bl S.nd Q x H1 from q1)
  obtain ⟨u, rfl, ru⟩ := r1.one
  cases dx with
  | @lst a xs _ hsq hda =>
  have ru : u = .ref a := ru
  subst ru
  show wpAny _ _ (evalAll ((do let v ← eval (.Lambda params body scope lpos) X.env; standAt pos; pure v) :: [])) _ _ s1
  refine wpAny_evalAll_cons (wpAny_bind (lam_made I1 TB hcode hT hdef hcl fun f c' pm ctv H2 s2 I2 keep T2 hge hf hfn hco => wpAny_bind (wpAny_standAt (wpAny_pure ?_))))
  refine wpAny_evalAll_nil ?_
  have sd2 : Same Hd H2 := fun b o e => keep b o (fun z => by rw [z, nP] at e; cases e) (sd b o e)
  obtain ⟨its, rv, hl, hz⟩ := I2.list (Same.seq sd2 hsq)
  have fp := I1.fpOk hge hfn
  have I3 : L2.Inv X (pins ++ [(f, PySem.W.kla_obj "<lambda>" (lamQ X) params body scope [] pm c' ctv)]) σ H2 s2 := I2.pins_of fun q hq => by
    rcases List.mem_append.mp hq with z | z
    · exact I2.pin q (List.mem_append_right _ z)
    · rw [List.mem_singleton.mp z]
      exact ⟨hf, hfn, fp.2.1, fp.2.2.1, fun v z => nomatch z⟩
  show wpAny _ _ (call (.builtin "sorted") [.ref a] [(Str.ofString "key", .ref f)]) _ _ s2
  refine call_function_entry_kw kind_sorted plain_sorted entry_sorted (ksk_s1 _ _) ?_
  unfold Builtin.«sorted»
  refine wpAny_bind (m := checkCount "sorted" 1 1 _) (wpAny_pure ?_)
  have hzi : its.length ≤ sizeLine := by rw [← rv.length]; exact hz
  refine wpAny_bind (collect_list hl.isList ?_ hzi)
  refine wpAny_bind (wpAny_newList ?_ hzi)
  obtain ⟨t1, ht1⟩ : ∃ t1, (s2.heap.push (seqObj "list" #[] 0)).update s2.heap.objs.size (Obj.mapSeq (· ++ its.toArray)) = t1 := ⟨_, rfl⟩
  have hsz : t1.objs.size = s2.heap.objs.size + 1 := by rw [← ht1, Heap.size_update, size_push']
  have hoL : (t1.push (seqObj "list" its.toArray 0)).get? (s2.heap.objs.size + 1) = some (seqObj "list" its.toArray 0) := by rw [← hsz]; exact Heap.get?_push_size _ rfl
  have kp : ∀ b o, s2.heap.get? b = some o → (t1.push (seqObj "list" its.toArray 0)).get? b = some o := fun b o q => by
    refine Heap.get?_push_of_some _ ?_
    rw [← ht1, Heap.get?_update_ne _ _ _ _ (Nat.ne_of_lt (Heap.lt_size q))]
    exact Heap.get?_push_of_some _ q
  show wpAny _ _ _ _ _ { s2 with heap := ((s2.heap.push (seqObj "list" #[] 0)).update s2.heap.objs.size (Obj.mapSeq (· ++ its.toArray))).push (seqObj "list" its.toArray 0) }
  rw [ht1, hsz]
  have fA : H2 (s2.heap.objs.size + 1) = none := I3.hok.fresh (Nat.le_succ _)
  have I4 : L2.Inv X (pins ++ [(f, PySem.W.kla_obj "<lambda>" (lamQ X) params body scope [] pm c' ctv)]) σ (upd H2 (s2.heap.objs.size + 1) (.lst xs)) { s2 with heap := t1.push (seqObj "list" its.toArray 0) } :=
    I3.laid (t' := s2.toks) kp (Nat.le_succ _) ⟨hz, its, 0, rv, hoL⟩
  obtain ⟨A0, hA0⟩ : ∃ A0, s2.heap.objs.size + 1 = A0 := ⟨_, rfl⟩
  rw [hA0] at hoL fA I4 ⊢
  have sd4 : Same Hd (fun b => if b = A0 then none else upd H2 A0 (.lst xs) b) := fun b o e => by
    have h2 := sd2 b o e
    have hb : b ≠ A0 := fun z => by rw [z, fA] at h2; cases h2
    show (if b = A0 then none else _) = _
    rw [if_neg hb, upd_ne hb]
    exact h2
  refine wpAny_bind (wpAny_holding (wpAny_call_entry_kw slot_list_sort ⟨_, hoL, rfl⟩ entry_list_sort ?_ (ksk_l1 _ _)))
  rw [ksk_t1]
  refine keyed_sort (ks := L.map (·.1)) (pinsF := []) I4 upd_same hoL rv (by have := hda.len; rw [List.length_map] at this ⊢; exact this.symm) (fun i u kk hu hk => ?_) (fun zs s' H'' hpz hsz' J hkeep hval => ⟨_, rfl, ?_⟩)
  · obtain ⟨v, hv, rv1⟩ : ∃ v, xs[i]? = some v ∧ RelV v u := by
      have main : ∀ {xs : List V} {its : List Value} {i : Nat}, Vals xs its → its[i]? = some u → ∃ v, xs[i]? = some v ∧ RelV v u := by
        intro xs its i hr
        induction hr generalizing i with
        | nil => intro z; simp at z
        | cons r0 _ ih =>
          intro z
          cases i with
          | zero => simp at z; subst z; exact ⟨_, rfl, r0⟩
          | succ i => simpa using ih (by simpa using z)
      exact main rv hu
    rw [List.getElem?_map] at hk
    cases he2 : L[i]? with
    | none => rw [he2] at hk; cases hk
    | some e2 =>
      rw [he2] at hk
      cases hk
      obtain ⟨v', hv', dv⟩ := hda.get (i := i) (d := e2.2) (by rw [List.getElem?_map, he2]; rfl)
      rw [hv] at hv'
      cases hv'
      have hcA : c' ≠ A0 := fun z => by rw [z, fA] at hco; cases hco
      exact lam_key (j := j) S bl (List.mem_append_right _ (List.mem_singleton.mpr rfl)) (by show (if c' = A0 then none else _) = _; rw [if_neg hcA, upd_ne hcA]; exact hco) (fun pm cv ctv => hbind u pm cv ctv) rv1 sd4 dv (Room.in1 (Room.in1 hr)) (fun J => J.env0.in1.in1) (hL e2 (List.mem_of_getElem? he2))
  · obtain ⟨L2', q1, q2⟩ := perm_pair hpz (dta_pair hda)
    obtain ⟨q3, q4⟩ := pair_fst q2
    have eL : L2' = L' := by
      refine strict_one (q1.trans hp.symm) ?_ hs
      have : (L2'.map (·.1)).Pairwise (· ≤ ·) := by rw [← q3]; exact List.pairwise_map.mpr hsz'
      exact List.pairwise_map.mp this
    subst eL
    refine wpAny_pure ⟨_, rfl, .ref A0, H'', J.pins_of fun q hq => J.pin q (List.mem_append_right _ (List.mem_append_left _ hq)), rfl, k H'' A0 _ (fun b o hb e => ?_) ?_ ?_ hval q4⟩
    · have e2 := keep b o hb e
      have hbA : b ≠ A0 := fun z => by rw [z, fA] at e2; cases e2
      exact hkeep b o hbA (by rw [upd_ne hbA]; exact e2)
    · refine LamX.TabS.ext T2 fun b o e => ?_
      have hbA : b ≠ A0 := fun z => by rw [z, fA] at e; cases e
      exact hkeep b o hbA (by rw [upd_ne hbA]; exact e)
    · refine Classical.byContradiction fun z => ?_
      obtain ⟨o, e⟩ := some_of z
      by_cases hbP : A0 = P
      · obtain ⟨ps, hP, _⟩ := T2
        rw [← hbP, fA] at hP; cases hP
      · have := keep A0 o hbP e
        rw [fA] at this; cases this
end Dv
namespace Dv
open PySem L2 PyProof.Rows
section
variable {F : Fr} {M : Ms} {ρ : List Sl} {P' : Sl → Ms → Prop} {W : Addr → Ms → Prop}
theorem ye_sortLam {e : Expr} {params : Arguments} {body : Expr} {scope : Scope} {y : Str} {c P : Addr} {j : Nat} {p lpos kpos pos : Pos} {L L' : List (Int × PyData)} (he : DE (F.ms M) ρ e (.ok (.list (L.map (·.2))))) (hm : (P, OO.t (lamQ F.X)) ∈ M) (TB : LamX.TabB F.X.base F.X.mg c P) (hcode : F.X.env.code = .ref c)
    (S : FnScope [y] [y] scope) (hr : Room (j + 3) F.X.A) (hL : ∀ e ∈ L, BodyOk F.X.prog F.X.w F.X.K F.X.mg F.X.base y (lamQ F.X) scope body F.bl S.nd e.2 e.1) (hp : L'.Perm L) (hs : L'.Pairwise fun a b => a.1 < b.1) (k : P' (.da (.list (L'.map (·.2)))) M)
    (hbind : ∀ (u pm cv ctv : Value), bindArgs (PySem.W.kla_fn "<lambda>" (lamQ F.X) params body scope [] pm cv ctv) ⟨[u], []⟩ = pure [(y, u)]) (hg : Gl F.X "sorted" := by rfl) (hdef : defaultsOf params F.X.env = ([], []) := by rfl) (hcl : closureFor scope F.X.env = pure [] := by rfl)
    (h1 : backTo pos (starEach [e] F.X.env) = (false, eval e F.X.env) :: backTo pos (starEach [] F.X.env) := by rfl) (h2 : (backTo pos (starEach [e] F.X.env)).any (·.1) = false := by rfl) (hs1 : starEach [e] F.X.env = (false, eval e F.X.env) :: starEach [] F.X.env := by rfl)
    (h3 : (backToKw pos (keywordEach [⟨some "key", .Lambda params body scope lpos, kpos⟩] F.X.env)).all (·.1.isSome) = true := by rfl) (h4 : (backToKw pos (keywordEach [⟨some "key", .Lambda params body scope lpos, kpos⟩] F.X.env)).any (·.1.isNone) = false := by rfl) :
    YE F M ρ (.Call (.Name "sorted" p) [e] [⟨some "key", .Lambda params body scope lpos, kpos⟩] pos) P' W := by
  refine ⟨_, pe_sortLam hg he.pe TB hcode hdef hcl S F.bl hbind hr h1 h2 hs1 h3 h4, fun σ H Hd Q u at0 k1 _ => tE_ok at0 fun x H1 Hd1 g1 dx => ?_⟩
  have m1 : MsOk F.X.K M H1 Hd1 := (show MsOk F.X.K M H Hd from at0.p).go g1
  obtain ⟨hT, nP⟩ := m1 _ hm
  have hT : LamX.TabS H1 P (lamQ F.X) := hT
  refine ⟨Hd1, L, L', g1.dh, nP, dx, hT, hL, hp, hs, fun H2 q vs keep T2 np hv da => ?_⟩
  have nq : Hd1 q = none := g1.dh.free np
  have PM : P ∈ adr M := List.mem_map.mpr ⟨_, hm, rfl⟩
  have sd : Same Hd1 (L2.upd Hd1 q (.lst vs)) := Same.upd nq
  have extP : ∀ b f, H1 b = some (HO.ext f) → b ≠ P := fun b f e z => by
    obtain ⟨ps, e2, _⟩ := hT
    rw [z, e2] at e; cases e
  refine k1 (.ref q) H2 (L2.upd Hd1 q (.lst vs)) _ M k ⟨⟨fun a o n e => keep a o (fun z => n (by rw [z]; exact PM)) (g1.hh a o e), g1.dd.trans sd, fun b o e => ?_, fun a h1 h2 => ?_⟩, fun a h => ?_, fun e he2 => ?_, fun e he2 => .inl (List.mem_map.mpr ⟨e, he2, rfl⟩), u⟩ ⟨_, rfl, .lst (.inl (.inl upd_same)) (da.mono sd)⟩
  · by_cases hb : b = q
    · subst hb; rw [upd_same] at e; cases e; exact hv
    · rw [upd_ne hb] at e
      exact keep b o (fun z => by rw [z, nP] at e; cases e) (g1.dh _ _ e)
  · have hb : a ≠ q := fun z => by
      subst z
      exact Same.ne g1.hh h1 np
    rw [upd_ne hb]; exact g1.fr a h1 h2
  · by_cases hb : a = P
    · subst hb
      obtain ⟨ps, e2, _⟩ := T2
      rw [e2]; exact fun z => nomatch z
    · obtain ⟨o, e⟩ := some_of (Same.ne g1.hh h)
      rw [keep a o hb e]; exact fun z => nomatch z
  · have k0 := m1 e he2
    have ne : e.1 ≠ q := fun z => by
      have := k0.1.live
      rw [z] at this
      exact this np
    refine ⟨?_, by rw [upd_ne ne]; exact k0.2⟩
    by_cases hb : e.1 = P
    · have main : ∀ {M : Ms} {e f : Addr × OO}, (adr M).Nodup → e ∈ M → f ∈ M → e.1 = f.1 → e = f := by
        intro M
        induction M with
        | nil => intro e f _ h; cases h
        | cons x M ih =>
          intro e f hn he hf hef
          have hn' := List.nodup_cons.mp hn
          rcases List.mem_cons.mp he with a | a
          · rcases List.mem_cons.mp hf with b | b
            · rw [a, b]
            · exact absurd (List.mem_map.mpr ⟨f, b, by rw [← hef, a]⟩) hn'.1
          · rcases List.mem_cons.mp hf with b | b
            · exact absurd (List.mem_map.mpr ⟨e, a, by rw [hef, b]⟩) hn'.1
            · exact ih hn'.2 a b hef
      have ee := main u he2 hm hb
      rw [ee]
      exact T2
    · exact k0.1.mono (fun o z => keep _ o hb z) (fun b f z => keep b _ (extP b f z) z) sd
end
/-! ### a def whose code object is known -/
theorem fnMC {P : Program} {w : World} {K : PySem.W.Frag} {mg : Str → Option Value} {base : Heap} {x qual : Str} {st : Stmt} {f c : Addr} {N ps : List Str} {k : Nat} {g : Gm} {oc kV doc pm ct : Value} {od an : Option Addr} {osl : Array (Option Value)}
    (lk : K.lookup f = some ⟨oc, od, .func (PySem.W.fnOf x qual (defArgs st) (defBody st) (defScope st) .none kV doc pm an (.ref c) ct), osl⟩) (hcd : PySem.W.codeIn K (.ref c) qual = true) (S : FnScope N ps (defScope st)) (bl : Bl mg) (len : ∀ xs M R W, g xs M R W → xs.length = ps.length)
    (body : ∀ (A : Around) (outer : List Env) (s : Shared) (H : Hp) (E : XK) (hu : (A.deeper (envOfC qual (defScope st) s.heap.objs.size f (.ref c))).units + 128 < cLine), Room k (A.deeper (envOfC qual (defScope st) s.heap.objs.size f (.ref c))) →
      ∀ xs M R W, g xs M R W → DY (frOf P w K mg base N qual (defScope st) f (.ref c) A outer s H E hu bl S.nd) (adr M) M (rhoS xs N) (defBody st) { nx := fun _ M' => R (.da .none) M', rt := R, er := W }) :
    FnOk P w K mg base (L2N.CX P w) (k + 1) f (PySem.W.fnOf x qual (defArgs st) (defBody st) (defScope st) .none kV doc pm an (.ref c) ct) ps (spM K g) := by
  have ln : ∀ {vs : List V} {xs : List Sl} {Hd : Hp}, EnvD K Hd (vs.map some) xs → vs.length = xs.length := fun e => by have := EnvD.len e; rwa [List.length_map] at this
  refine fn_of lk hcd S (fun vs H Q E ⟨Hd, M, xs, R, W, s0, e, m, u, q, _⟩ => by rw [ln e]; exact len xs M R W q) fun A outer s H vs Q E hr ⟨Hd, M, xs, R, W, s0, e, m, u, q, k1, k2⟩ => ?_
  have hu : (A.deeper (envOfC qual (defScope st) s.heap.objs.size f (.ref c))).units + 128 < cLine := by have := hr.un; omega
  have hb := body A outer s H E hu hr xs M R W q
  refine ⟨_, hb.pb, H, Hd, Hd, Hd, ⟨.refl s0 m u, fun b hb z => ?_, Same.refl _, ?_⟩, ?_, ?_, ?_, ?_, ?_⟩
  · obtain ⟨e, he, rfl⟩ := List.mem_map.mp hb
    exact (m e he).1.live z
  · show EnvD K Hd (L2.start N vs) (rhoS xs N)
    unfold L2.start rhoS
    rw [ln e]
    exact e.startS _
  · exact fun σ' H' Hd' ρ' M' z x _ _ => k1 .non H' Hd' _ M' z x ⟨_, rfl, .non⟩
  · exact fun σ' H' Hd' ρ' M' z => z.elim
  · exact fun σ' H' Hd' ρ' M' z => z.elim
  · exact fun v H' Hd' x M' z y sl => k1 v H' Hd' x M' z y sl
  · exact fun C M' σ' H' Hd' z y => k2 C M' H' Hd' z y
/-! ### the end with one table -/
def gLawT (P : Addr) (q : Str) : Gm := fun xs M R W => ∃ ns : List Int, xs = [.da (.list (ns.map .int))] ∧ ns.length ≤ 63 ∧ M = [(P, .t q)] ∧ ∀ M', R (.da (.bool true)) M'
def tabAt (K : PySem.W.Frag) (c : Addr) : Option Addr := match K.lookup c with
  | some ⟨_, _, .fields vs, _⟩ => (match (vs[11]? : Option Value) with
    | some (.ref P) => some P
    | _ => none)
  | _ => none
theorem walkT {l : PySem.W.OpenLaw} {k : Nat} {q : Program} {loose : List Str} {XP : (Str → Option Value) → Heap → Prop} {YP : World → Heap → Prop} {d : DefRec} {K : Params → PySem.W.Frag} {x : Str} (ts : List Addr) (hn : l.most = some 63) (hdf : d.params.defaults = []) (hr : Room k callerA)
    (hY : ∀ (w : World) (h : Heap), YP w h → (K w.params).In h) (hT : ∀ (w : World) (h : Heap), YP w h → ∀ P ∈ ts, h.get? P = some (PySem.W.tabObj #[]))
    (F : ∀ (w : World) (mg : Str → Option Value) (fa : Addr) (h : Heap), (K w.params).In h → h.Ns mainGlobals mg → mg d.name = some (.ref fa) →
      ∃ (fd : FuncData) (c P : Addr) (tq : Str), P ∈ ts ∧ (K w.params).lookup P = none ∧ PySem.W.codeHdIn (K w.params) c P = true ∧ (∀ (s : Shared) (u : Value), BindsTo s fd ⟨[u], []⟩ [(x, u)]) ∧ ∀ base : Heap, (K w.params).In base → base.Ns mainGlobals mg → LamX.TabB base mg c P → FnOk l.prog w (K w.params) mg base (L2N.CX l.prog w) k fa fd [x] (spM (K w.params) (gLawT P tq))) :
    PySem.W.WalkO q loose XP YP l.row.toRowW d [] (fun f vs => PySem.call f vs) := by
  refine LamX.walk_ofTs (n := 63) (k := k) (x := x) (K := K) (CX := fun w => L2N.CX l.prog w) hn (Nat.le_of_ble_eq_true rfl) hdf hr hY (fun w mg fa h Y KX G hmg => ?_) fun w H s e s' z => noCX z
  obtain ⟨fd, c, P, tq, hP, hL, hC, hb, hF⟩ := F w mg fa h KX G hmg
  refine ⟨fd, [(c, P)], spM (K w.params) (gLawT P tq), fun p hp => ?_, fun p hp => ?_, fun p hp => ?_, hb, fun H a ns hl _ hH hS => ?_, fun base b1 b2 b3 => hF base b1 b2 (b3 _ List.mem_cons_self)⟩
  · rw [List.mem_singleton.mp hp]; exact hT w h Y P hP
  · rw [List.mem_singleton.mp hp]; exact hL
  · rw [List.mem_singleton.mp hp]; exact PySem.W.codeHd_of_K KX hC
  · have hHP := hH _ List.mem_cons_self
    have sH : Same (fun b => if b = P then none else H b) H := fun b o e => by
      have e : (if b = P then none else H b) = some o := e
      by_cases hb : b = P
      · rw [if_pos hb] at e; cases e
      · rw [if_neg hb] at e; exact e
    have hS' : SqL (K w.params) (fun b => if b = P then none else H b) a (ns.map V.int) := by
      rcases hS with (z | ⟨o, z⟩) | z
      · refine .inl (.inl ?_)
        show (if a = P then none else H a) = _
        rw [if_neg (fun e => by rw [e, hHP] at z; cases z)]
        exact z
      · refine .inl (.inr ⟨o, ?_⟩)
        show (if a = P then none else H a) = _
        rw [if_neg (fun e => by rw [e, hHP] at z; cases z)]
        exact z
      · exact .inr z
    refine ⟨fun b => if b = P then none else H b, [(P, .t tq)], [.da (.list (ns.map .int))], fun x _ => x = .da (.bool true), fun _ _ => False, sH, .cons ⟨_, rfl, .lst hS' (DtA.ints ns)⟩ .nil, (fun e he => ?_), List.nodup_cons.mpr ⟨(fun z => nomatch z), List.nodup_nil⟩, ⟨ns, rfl, hl, rfl, (fun _ => rfl)⟩, (fun v H' Hd' x M' z _ sl => ?_), (fun _ _ _ _ z => z.elim)⟩
    · rw [List.mem_singleton.mp he]
      exact ⟨LamX.TabS.nil hHP, if_pos rfl⟩
    · subst z
      obtain ⟨v', e, dv⟩ := sl
      cases e
      cases dv
      rfl
end Dv
namespace Dv
open PySem PySem.Spec PyProof.Rows L2
/-! ### list(d.values()) -/
def tLstVals (td : TE) : TE := fun σ H Q => td σ H fun x H1 => ∃ (a : Addr) (us : List (Key × V)), x = V.ref a ∧ H1 a = some (.dK us) ∧ ∀ q, H1 q = none → Q (.ref q) (L2.upd H1 q (.lst (us.map (·.2))))
theorem pe_listVals {X : Cx} {o : Expr} {td : TE} {p apos mpos pos : Pos} (hc : X.calm = true) (hg : Gl X "list") (hm : X.mg "list" = none) (hd : PE X o td) (hb1 : attributeBase o "values" X.env (eval o X.env) = eval o X.env := by rfl) (hb2 : (apos.endLine == mpos.line) = true := by rfl)
    (na : starEach [Expr.Call (.Attribute o "values" apos) [] [] mpos] X.env = (false, eval (Expr.Call (.Attribute o "values" apos) [] [] mpos) X.env) :: starEach [] X.env := by rfl) : PE X (.Call (.Name "list" p) [.Call (.Attribute o "values" apos) [] [] mpos] [] pos) (tLstVals td) := by
  refine ⟨fun pins s σ H Q I h => ?_⟩
  refine Call_ (ld_blt I hg hm boot_list (PyProof.Rows.callWith_type1 (args_cons (wpAny_Call_method0_late hb1 hb2 (thn (hd.run pins s σ H _ I h) fun v s1 ⟨x, H1, I1, r1, a, us, ex, ha, q⟩ => ?_)) na) na))
  subst ex
  obtain rfl : v = Value.ref a := r1
  obtain ⟨hz, hsys, vs, rk, dof⟩ := dk_of I1.hok ha
  obtain ⟨ep, dat⟩ := dof.dictAt
  obtain ⟨ob, es, ho, ex, rest⟩ := id dat
  refine ⟨"dict", "dict.values", F.plainAttrs_dict, F.slot_dict_values, F.type_dict_values, ⟨ob, ho, ex.1⟩, (fun b e => by cases e; exact ⟨ob, ho, ex.2.1⟩), Calls.callWith_builtin rfl (PySem.evalArgs_none ?_)⟩
  refine call_meetsIn F.slot_dict_values ⟨ob, ho, ex.1⟩ F.entry_dict_values (F.args_dict_values_1 _) (meets_dict_values (mixKind X.prog X.w) a hsys) ⟨⟨vs, dof⟩, args_nil ?_⟩
  have hl : us.length = vs.length := Paired.length rk
  have kp : ∀ b u, s1.heap.get? b = some u → (s1.heap.push { cls := .type "dict_values", data := .fields #[.ref a] }).get? b = some u := fun b u e => Heap.get?_push_of_some _ e
  have I2 := I1.kept (t' := s1.toks) kp
  refine PySem.W.kdl_call (PySem.W.kdl_values (knd := mixKind X.prog X.w) (kvs := vs) (ep := ep) (d := a) (r := s1.heap.objs.size)) (I1.ok.hd hc) ⟨⟨_, Heap.get?_push_size _ rfl, rfl, rfl⟩, dat.keep kp⟩ (by rw [← hl]; exact hz) fun h' tk ac c' hkeep hS hacc => ?_
  have hsz : (s1.heap.push { cls := .type "dict_values", data := .fields #[.ref a] }).objs.size = s1.heap.objs.size + 1 := Heap.size_push _ _
  have hv : Vals (us.map (·.2)) ac.toList := by
    refine vals_of_at (by rw [List.length_map, show ac.toList.length = ac.size from Array.length_toList, hacc.1, hl]) fun j y w h1 h2 => ?_
    obtain ⟨k, hk⟩ := hacc.2 j w (by rw [← Array.getElem?_toList]; exact h2)
    obtain ⟨y', e1, e2⟩ := KV.at' rk hk
    rw [List.getElem?_map, e1] at h1
    cases h1
    exact e2
  exact ⟨.ref _, _, I2.laid hkeep (Nat.le_refl _) (show ObjOk X.prog X.w _ _ _ (.lst (us.map (·.2))) from ⟨by rw [List.length_map]; exact hz, ac.toList, c', hv, by rw [Array.toArray_toList]; exact hS⟩), rfl, q _ (I2.hok.fresh (Nat.le_refl _))⟩
section
variable {F : Fr} {M M' : Ms} {ρ : List Sl} {pos p apos : Pos} {e a b : Expr} {d : PyData}
/-- list(a.values()) -/
theorem de_listVals {q : Addr} {kvs : List (Key × PyData)} {mpos : Pos} (ha : SE F M ρ a (.rf q)) (hm : (q, OO.d kvs) ∈ M) (hc : F.X.calm = true := by rfl) (hg : Gl F.X "list" := by rfl) (hb1 : attributeBase a "values" F.X.env (eval a F.X.env) = eval a F.X.env := by rfl) (hb2 : (apos.endLine == mpos.line) = true := by rfl)
    (na : starEach [Expr.Call (.Attribute a "values" apos) [] [] mpos] F.X.env = (false, eval (Expr.Call (.Attribute a "values" apos) [] [] mpos) F.X.env) :: starEach [] F.X.env := by rfl) : DE (F.ms M) ρ (.Call (.Name "list" p) [.Call (.Attribute a "values" apos) [] [] mpos] [] pos) (.ok (.list (kvs.map (·.2)))) :=
  ⟨pe_imp (pe_listVals hc hg F.bl.list (pe_se ha) hb1 hb2 na) fun σ H Q ⟨Hd, a0, k⟩ => ⟨Hd, a0, fun w H1 Hd1 g1 sl => by
    have sl : some w = some (V.ref q) := sl
    cases sl
    obtain ⟨⟨us, e1, ek, da⟩, _⟩ := (show MsOk F.X.K M H Hd from a0.p).go g1 _ hm
    exact ⟨q, us, rfl, e1, fun r hr => k _ _ (L2.upd Hd1 r (.lst (us.map fun u : Key × V => u.2))) (g1.trans (.new g1.dh hr)) (.lst (.inl (.inl upd_same)) (da.mono (Same.upd (g1.dh.free hr))))⟩⟩⟩
/-- list(a), a list -/
theorem de_listS {q : Addr} {ds : List PyData} (ha : SE F M ρ a (.rf q)) (hm : (q, OO.l ds) ∈ M) (hg : Gl F.X "list" := by rfl) (he : starEach [a] F.X.env = (false, eval a F.X.env) :: starEach [] F.X.env := by rfl) (hpl : (backTo pos (starEach [] F.X.env)).any (·.1) = false := by rfl) : DE (F.ms M) ρ (.Call (.Name "list" p) [a] [] pos) (.ok (.list ds)) :=
  ⟨pe_imp (pe_callTy call_list_of hg F.bl.list (by decide +kernel) (pa_cons (pe_se ha) pa_nil he) (he := he) (hpl := hpl)) fun σ H Q ⟨Hd, a0, k⟩ => ⟨Hd, a0, fun w H1 Hd1 g1 sl => by
    have sl : some w = some (V.ref q) := sl
    cases sl
    obtain ⟨⟨vs, e1, da⟩, _⟩ := (show MsOk F.X.K M H Hd from a0.p).go g1 _ hm
    exact ⟨q, vs, rfl, .inl (.inl (.inl e1)), fun r hr => k _ _ (L2.upd Hd1 r (.lst vs)) (g1.trans (.new g1.dh hr)) (.lst (.inl (.inl upd_same)) (da.mono (Same.upd (g1.dh.free hr))))⟩⟩⟩
/-- e in a, a list -/
theorem dt_inL {q : Addr} {ds : List PyData} (hx : DE (F.ms M) ρ e (.ok d)) (ha : SE F M ρ a (.rf q)) (hm : (q, OO.l ds) ∈ M) (sd : SeqAt.shaped d = true) (se : SeqAt.shaped (.list ds) = true) (h1 : behindInMarks .In a = false := by rfl) : DT (F.ms M) ρ (.Compare e [.In] [a] pos) (ds.any fun z => PyData.eqv z d) :=
  ⟨pt_imp (pt_cmpR (op_inD (Nat.lt_of_le_of_lt (Nat.add_le_add_left (by decide) _) F.hu)) hx.pe (pe_se ha) h1) fun σ H Q ⟨Hd, a0, k⟩ => tE_ok a0 fun u H1 Hd1 g1 d1 => ⟨Hd1, a0.go g1, fun w H2 Hd2 g2 sl => by
    have sl : some w = some (V.ref q) := sl
    cases sl
    obtain ⟨⟨vs, e1, da⟩, _⟩ := (show MsOk F.X.K M H Hd from a0.p).go (g1.trans g2) _ hm
    have dl : Dt F.X.K H2 (.ref q) (.list ds) := .lst (.inl (.inl e1)) (da.mono g2.dh)
    exact ⟨d, ds, ((d1.mono g2.dd).mono g2.dh).dpS sd, dl.dpS se, sd, se, _, rfl, k H2 Hd2 (g1.trans g2)⟩⟩⟩
end
end Dv
namespace Dv
open PySem L2 PyProof.Rows
/-! ### a house that doesn't lie, in plain Lean -/
theorem eqv_str (a b : Str) : PyData.eqv (.str a) (.str b) = decide (a = b) := by
  rw [Bool.eq_iff_iff, decide_eq_true_eq]
  simp [PyData.eqv]
theorem eqv_int (a b : Int) : PyData.eqv (.int a) (.int b) = decide (a = b) := by
  rw [Bool.eq_iff_iff, decide_eq_true_eq]
  simp [PyData.eqv]
theorem eqv_three (a c a' c' : Str) (b b' : Int) : PyData.eqv (.tuple [.str a, .int b, .str c]) (.tuple [.str a', .int b', .str c']) = (decide (a = a') && (decide (b = b') && decide (c = c'))) := by
  rw [Bool.eq_iff_iff]
  simp [PyData.eqv, PyData.eqvAll]
theorem eqv_wd (a b : Wd) : PyData.eqv (wd a) (wd b) = decide (a = b) := by
  unfold wd wordD
  rw [Bool.eq_iff_iff, decide_eq_true_eq]
  simp only [PyData.eqv, PyData.eqvAll, Bool.and_true, Bool.and_eq_true, decide_eq_true_eq, beq_iff_eq]
  constructor
  · rintro ⟨h1, h2, h3, h4⟩
    cases a; cases b
    simp only at h1 h2 h3 h4
    subst h1 h2 h3 h4
    rfl
  · rintro rfl
    exact ⟨rfl, rfl, rfl, rfl⟩
theorem any_wd (l : List Wd) (x : Wd) : ((l.map wd).any fun z => PyData.eqv z (wd x)) = decide (x ∈ l) := by
  induction l with
  | nil => rfl
  | cons a l ih =>
    rw [List.map_cons, List.any_cons, ih, eqv_wd]
    by_cases h : a = x
    · subst h; simp
    · have : ¬ x = a := fun z => h z.symm
      simp [h, this]
/-- by numbers -/
def hasK {α : Type} (l : List (Int × α)) (i : Int) : Bool := l.any fun e => decide (e.1 = i)
def getK {α : Type} (l : List (Int × α)) (i : Int) : Option α := (l.find? fun e => decide (e.1 = i)).map (·.2)
def kvK {α : Type} (f : Int → α → PyData) (l : List (Int × α)) : List (Key × PyData) := l.map fun e => ((Sum.inl e.1 : Key), f e.1 e.2)
theorem kvK_val {α : Type} (f : Int → α → PyData) (l : List (Int × α)) (i : Int) : valD (kvK f l) (Sum.inl i : Key) = (getK l i).map (f i) := by
  induction l with
  | nil => rfl
  | cons e l ih =>
    by_cases q : e.1 = i
    · subst q
      have : valD (kvK f (e :: l)) (Sum.inl e.1 : Key) = some (f e.1 e.2) := valD_pos rfl
      rw [this]
      unfold getK
      rw [List.find?_cons, decide_eq_true rfl]
      rfl
    · have : valD (kvK f (e :: l)) (Sum.inl i : Key) = valD (kvK f l) (Sum.inl i : Key) := valD_neg (fun z => q (Sum.inl.inj z))
      rw [this, ih]
      unfold getK
      rw [List.find?_cons, decide_eq_false q]
theorem hasK_get {α : Type} (l : List (Int × α)) (i : Int) : hasK l i = (getK l i).isSome := by
  induction l with
  | nil => rfl
  | cons e l ih =>
    unfold hasK getK at ih ⊢
    rw [List.any_cons, List.find?_cons]
    cases q : decide (e.1 = i) with
    | true => rfl
    | false => exact ih
theorem kvK_has {α : Type} (f : Int → α → PyData) (l : List (Int × α)) (i : Int) : (valD (kvK f l) (Sum.inl i : Key)).isSome = hasK l i := by
  rw [kvK_val, hasK_get]
  cases getK l i <;> rfl
theorem kvK_none {α : Type} {f : Int → α → PyData} {l : List (Int × α)} {i : Int} (h : hasK l i = false) : valD (kvK f l) (Sum.inl i : Key) = none := by
  have := kvK_has f l i
  rw [h] at this
  cases e : valD (kvK f l) (Sum.inl i : Key) with
  | none => rfl
  | some v => rw [e] at this; cases this
theorem kvK_snoc {α : Type} (f : Int → α → PyData) (l : List (Int × α)) (i : Int) (x : α) : kvK f (l ++ [(i, x)]) = kvK f l ++ [((Sum.inl i : Key), f i x)] := by simp [kvK]
theorem kvK_keys {α : Type} (f : Int → α → PyData) (l : List (Int × α)) : (kvK f l).map (·.1) = (l.map (·.1)).map Sum.inl := by
  unfold kvK
  rw [List.map_map, List.map_map]
  rfl
theorem kvK_len {α : Type} (f : Int → α → PyData) (l : List (Int × α)) : (kvK f l).length = l.length := List.length_map ..
/-- by houses, rising -/
def insW (x : Wd) : List Wd → List Wd
  | [] => [x]
  | y :: r => if x.h ≤ y.h then x :: y :: r else y :: insW x r
def sortW : List Wd → List Wd
  | [] => []
  | x :: r => insW x (sortW r)
theorem insW_perm (x : Wd) : ∀ l, (insW x l).Perm (x :: l)
  | [] => .refl _
  | y :: r => by
    unfold insW
    split
    · exact .refl _
    · exact ((insW_perm x r).cons y).trans (.swap _ _ _)
theorem sortW_perm : ∀ l, (sortW l).Perm l
  | [] => .refl _
  | x :: r => (insW_perm x _).trans ((sortW_perm r).cons x)
theorem insW_sorted (x : Wd) : ∀ l, l.Pairwise (fun a b => a.h ≤ b.h) → (insW x l).Pairwise fun a b => a.h ≤ b.h
  | [], _ => List.pairwise_singleton _ _
  | y :: r, h => by
    have h' := List.pairwise_cons.mp h
    unfold insW
    split
    · rename_i hle
      refine List.pairwise_cons.mpr ⟨fun z hz => ?_, h⟩
      rcases List.mem_cons.mp hz with e | e
      · rw [e]; exact hle
      · exact Int.le_trans hle (h'.1 z e)
    · rename_i hle
      refine List.pairwise_cons.mpr ⟨fun z hz => ?_, insW_sorted x r h'.2⟩
      rcases List.mem_cons.mp ((insW_perm x r).mem_iff.mp hz) with e | e
      · rw [e]; omega
      · exact h'.1 z e
theorem sortW_sorted : ∀ l, (sortW l).Pairwise fun a b => a.h ≤ b.h
  | [] => .nil
  | x :: r => insW_sorted x _ (sortW_sorted r)
def isMark (num : Int) (row : Str) (x : Wd) : Bool := decide (x.k = "mark") && (decide (x.m = num) && decide (x.r = row))
def marksF (ws : List Wd) (num : Int) (row : Str) : List Wd := ws.filter (isMark num row)
theorem isMark_eq {num : Int} {row : Str} {x y : Wd} (hx : isMark num row x = true) (hy : isMark num row y = true) (h : x.h = y.h) : x = y := by
  unfold isMark at hx hy
  simp only [Bool.and_eq_true, decide_eq_true_eq] at hx hy
  cases x; cases y
  obtain ⟨rfl, rfl, rfl⟩ := hx
  obtain ⟨e1, e2, e3⟩ := hy
  simp only at h e1 e2 e3
  subst h e1 e2 e3
  rfl
theorem marks_strict {ws : List Wd} {num : Int} {row : Str} (h : ws.Nodup) : (sortW (marksF ws num row)).Pairwise fun a b => a.h < b.h := by
  have hn : (sortW (marksF ws num row)).Nodup := (sortW_perm _).nodup_iff.mpr (h.filter _)
  have hs := sortW_sorted (marksF ws num row)
  have hm : ∀ x ∈ sortW (marksF ws num row), isMark num row x = true := fun x hx => (List.mem_filter.mp ((sortW_perm _).mem_iff.mp hx)).2
  revert hn hs hm
  generalize sortW (marksF ws num row) = l
  intro hn hs hm
  induction l with
  | nil => exact .nil
  | cons x l ih =>
    have hn' := List.nodup_cons.mp hn
    have hs' := List.pairwise_cons.mp hs
    refine List.pairwise_cons.mpr ⟨fun y hy => ?_, ih hn'.2 hs'.2 fun z hz => hm z (List.mem_cons_of_mem _ hz)⟩
    have h1 := hs'.1 y hy
    have h2 : x.h ≠ y.h := fun e => hn'.1 (by rw [isMark_eq (hm x List.mem_cons_self) (hm y (List.mem_cons_of_mem _ hy)) e]; exact hy)
    omega
structure Hs where
  n : Int
  own : Int
  wanted : Int
  known : List Wd
  marked : List (Int × Str)
  written : List (Int × (Str × List Wd))
  named : List (Int × (Wd × Wd))
  calls : Int
def fMk (_ : Int) (r : Str) : PyData := .str r
def fWr (_ : Int) (x : Str × List Wd) : PyData := .tuple [.str x.1, .list (x.2.map wd)]
def fNm (h : Int) (x : Wd × Wd) : PyData := .tuple [.int h, wd x.1, wd x.2]
structure HA where
  C : Addr
  p : Addr
  k : Addr
  m : Addr
  w : Addr
  nm : Addr
  P : Addr
abbrev houseM (a : HA) (s : Hs) : Ms := [(a.p, .o a.C [("wanted", .da (.int s.wanted)), ("count", .da (.int s.n)), ("own", .da (.int s.own)), ("known", .rf a.k), ("marked", .rf a.m), ("written", .rf a.w), ("named", .rf a.nm), ("calls", .da (.int s.calls))]), (a.k, .l (s.known.map wd)), (a.m, .d (kvK fMk s.marked)), (a.w, .d (kvK fWr s.written)), (a.nm, .d (kvK fNm s.named))]
def writeF (s : Hs) (num : Int) (row : Str) : Hs × List Wd :=
  if hasK s.written num || decide (((sortW (marksF s.known num row)).length : Int) < s.wanted) then (s, []) else ({ s with written := s.written ++ [(num, (row, sortW (marksF s.known num row)))] }, sortW (marksF s.known num row))
def nameF (s : Hs) (before : List Wd) (x : Wd) : Hs × List Wd := match before.filter fun a => unl a x with
  | [] => (s, [])
  | f :: _ => if hasK s.named x.h then (s, []) else ({ s with named := s.named ++ [(x.h, (f, x))] }, [f, x])
def hearF (s : Hs) (x : Wd) : Hs × List Wd :=
  if x ∈ s.known then (s, []) else
    let say := decide (x.k = "say") && !hasK s.marked x.m
    let mk : Wd := ⟨"mark", x.m, x.r, s.own⟩
    let s1 : Hs := if say then { s with known := s.known ++ [x] ++ [mk], marked := s.marked ++ [(x.m, x.r)] } else { s with known := s.known ++ [x] }
    let t1 : List Wd := if say then [mk] else []
    let a := writeF s1 x.m x.r
    let b := nameF a.1 s.known x
    (b.1, t1 ++ a.2 ++ b.2)
def callF (s : Hs) (row : Str) : Hs × List Wd :=
  let x : Wd := ⟨"say", s.own + s.n * s.calls, row, s.own⟩
  let b := hearF { s with calls := s.calls + 1 } x
  (b.1, x :: b.2)
structure Hs.Ok (s : Hs) (B : Nat) : Prop where
  wok : ∀ x ∈ s.known, x.ok
  nd : s.known.Nodup
  lk : s.known.length ≤ B
  lm : s.marked.length ≤ B
  lw : s.written.length ≤ B
  ln : s.named.length ≤ B
  kw : (s.written.map (·.1)).Nodup
  om : ∀ x ∈ s.known, x.k = "mark" → x.h = s.own → hasK s.marked x.m = true
  wo : ∀ e ∈ s.written, leafOk (.str e.2.1) ∧ ∀ y ∈ e.2.2, y.ok
  no : ∀ e ∈ s.named, e.2.1.ok ∧ e.2.2.ok
end Dv
namespace Dv
open PySem L2 PyProof.Rows
/-! ### what is new, to be changed by whoever gets it -/
section
variable {K : PySem.W.Frag} {M M2 : Ms} {A : List Addr} {H0 Hd0 H Hd : Hp} {p : Addr} {m : OO} {ho : HO}
theorem Ex.new (x : Ex A H0 Hd0 K M H Hd) (hp : H p = none) (hm : OOk K (L2.upd H p ho) Hd p m) : Ex A H0 Hd0 K ((p, m) :: M) (L2.upd H p ho) Hd := by
  have gn : Grw H Hd (L2.upd H p ho) Hd := .junk x.s hp
  have x2 := x.trans (.grw x.m x.u gn)
  refine ⟨x2.g, x2.lv, fun q hq => ?_, fun q hq => ?_, List.nodup_cons.mpr ⟨fun z => ?_, x.u⟩⟩
  · rcases List.mem_cons.mp hq with w | w
    · subst w; exact ⟨hm, x.s.free hp⟩
    · exact x2.m q w
  · rcases List.mem_cons.mp hq with w | w
    · subst w
      exact .inr (Classical.byContradiction fun z => x.lv _ z hp)
    · exact x.n q w
  · obtain ⟨q, hq, e1⟩ := List.mem_map.mp z
    have := (x.m q hq).1.live
    rw [e1] at this
    exact this hp
/-- frozen: data from now on -/
theorem Ex.ice (x : Ex A H0 Hd0 K ((p, m) :: M2) H Hd) (n0 : H0 p = none) (e1 : H p = some ho) : Ex A H0 Hd0 K M2 H (L2.upd Hd p ho) ∧ Same Hd (L2.upd Hd p ho) := by
  have e2 := (x.m _ List.mem_cons_self).2
  have e2 : Hd p = none := e2
  have hu := List.nodup_cons.mp x.u
  have sd : Same Hd (L2.upd Hd p ho) := Same.upd e2
  refine ⟨⟨⟨x.g.hh, x.g.dd.trans sd, fun b u e => ?_, fun b h1 h2 => ?_⟩, x.lv, fun r hr => ?_, fun r hr => x.n r (List.mem_cons_of_mem _ hr), hu.2⟩, sd⟩
  · by_cases hb : b = p
    · subst hb; rw [upd_same] at e; cases e; exact e1
    · rw [upd_ne hb] at e; exact x.g.dh _ _ e
  · have hb : b ≠ p := fun z => h1 (by rw [z]; exact n0)
    rw [upd_ne hb]; exact x.g.fr b h1 h2
  · have m1 := x.m r (List.mem_cons_of_mem _ hr)
    refine ⟨m1.1.mono (fun _ z => z) (fun _ _ z => z) sd, ?_⟩
    rw [upd_ne (fun z => hu.1 (List.mem_map.mpr ⟨r, hr, z⟩))]
    exact m1.2
theorem dtK_of : ∀ {us : List (Key × V)} {kvs : List (Key × PyData)}, us.map (·.1) = kvs.map (·.1) → DtA K Hd (us.map (·.2)) (kvs.map (·.2)) → DtK K Hd us (kvs.map fun kv => (keyD kv.1, kv.2))
  | [], [], _, _ => .nil
  | u :: us, kv :: kvs, h, d => by
    have h1 : u.1 = kv.1 := (List.cons.inj h).1
    have h2 : us.map (·.1) = kvs.map (·.1) := (List.cons.inj h).2
    obtain ⟨k, v⟩ := u
    obtain ⟨k', d'⟩ := kv
    have h1 : k = k' := h1
    subst h1
    cases d with
    | cons a b => exact .cons a (dtK_of h2 b)
  | [], _ :: _, h, _ => nomatch h
  | _ :: _, [], h, _ => nomatch h
end
def dicD (kvs : List (Key × PyData)) : PyData := .dict (kvs.map fun kv => (keyD kv.1, kv.2))
section
variable {F : Fr} {B : List Addr} {M M' : Ms} {ρ ρ' : List Sl} {pos p apos tp : Pos} {e a b c v tg : Expr} {es : List Expr} {rest A A2 : List Stmt} {x : Sl} {d : PyData} {ds zs : List PyData} {P : Sl → Ms → Prop} {W : Addr → Ms → Prop} {o : YO}
/-- a new dict becomes data -/
theorem ye_iceD (h : YE F M ρ e (fun x M1 => ∃ q kvs M2, x = .rf q ∧ M1.Perm ((q, .d kvs) :: M2) ∧ (∀ z ∈ adr M, z ∈ adr M2) ∧ P (.da (dicD kvs)) M2) W) : YE F M ρ e P W := by
  obtain ⟨t, pe, i⟩ := h
  refine ⟨t, pe, fun σ H Hd Q u a0 k1 k2 => i σ H Hd _ u a0 (fun v H1 Hd1 x M1 z x1 s1 => ?_) k2⟩
  obtain ⟨q, kvs, M2, rfl, hp, hsub, hP⟩ := z
  have x := x1.perm hp
  have hu := List.nodup_cons.mp x.u
  obtain ⟨us, e1, ek, da⟩ := (x.m _ List.mem_cons_self).1
  have n0 : H q = none := by
    rcases x.n _ List.mem_cons_self with z | z
    · exact absurd (hsub _ z) hu.1
    · exact z
  obtain ⟨y, sd⟩ := x.ice n0 e1
  have s1 : some v = some (V.ref q) := s1
  cases s1
  exact k1 _ H1 _ _ M2 hP y ⟨_, rfl, .dic upd_same (dtK_of ek (da.mono sd))⟩
/-- a + b, lists; what comes is new -/
theorem ye_addF (ha : YE F M ρ a (fun x M1 => YE F M1 ρ b (fun y M2 => ∃ da db, x = .da (.list da) ∧ y = .da (.list db) ∧ da.length + db.length ≤ sizeLine ∧ ∀ q, P (.rf q) ((q, .l (da ++ db)) :: M2)) W) W) : YE F M ρ (.BinOp a .Add b pos) P W := by
  obtain ⟨t, pe, i⟩ := ha
  refine ⟨_, pe_op op_catR pe pe_uE, fun σ H Hd Q u a0 k1 k2 => i σ H Hd _ u a0 (fun v H1 Hd1 x M1 z x1 s1 => ?_) k2⟩
  obtain ⟨t2, p2, i2⟩ := z
  refine ⟨t2, p2, i2 σ H1 Hd1 _ x1.u (at_ms x1 (a0.e.mono x1.g.dd)) (fun w H2 Hd2 y M2 z x2 s2 => ?_) fun C M2 H2 Hd2 z x2 => k2 C M2 H2 Hd2 z (x1.trans x2)⟩
  obtain ⟨da, db, rfl, rfl, hz, hP⟩ := z
  obtain ⟨_, e1, d1⟩ := s1
  obtain ⟨_, e2, d2⟩ := s2
  cases e1; cases e2
  have x3 := x1.trans x2
  have d1 := d1.mono x2.g.dd
  cases d1 with
  | lst r1 q1 =>
    cases d2 with
    | lst r2 q2 =>
      exact ⟨_, _, _, _, rfl, rfl, x2.s.seq r1, x2.s.seq r2, by rw [q1.len, q2.len]; exact hz, fun p hp => k1 _ _ Hd2 _ _ (hP p) (x3.new hp ⟨_, upd_same, q1.append q2⟩) rfl⟩
/-- list(a): new -/
theorem ye_copyF {p2 : Pos} (ha : DE (F.ms M) ρ a (.ok (.list ds))) (k : ∀ q, P (.rf q) ((q, .l ds) :: M)) (hg : Gl F.X "list" := by rfl) (he : starEach [a] F.X.env = (false, eval a F.X.env) :: starEach [] F.X.env := by rfl) (hpl : (backTo pos (starEach [] F.X.env)).any (·.1) = false := by rfl) : YE F M ρ (.Call (.Name "list" p2) [a] [] pos) P W :=
  ⟨_, pe_callTy call_list_of hg F.bl.list (by decide +kernel) (pa_cons ha.pe pa_nil he) (he := he) (hpl := hpl), fun σ H Hd Q u a0 k1 _ => tE_ok a0 fun w H1 Hd1 g1 dw => by
    have x1 := Ex.grw a0.p u g1
    cases dw with
    | lst r q => exact ⟨_, _, rfl, .inl (g1.dh.seq r), fun r hr => k1 _ _ Hd1 _ _ (k r) (x1.new hr ⟨_, upd_same, q⟩) rfl⟩⟩
theorem ye_copySF {p2 : Pos} {q : Addr} (ha : SE F M ρ a (.rf q)) (hm : (q, OO.l ds) ∈ M) (k : ∀ q, P (.rf q) ((q, .l ds) :: M)) (hg : Gl F.X "list" := by rfl) (he : starEach [a] F.X.env = (false, eval a F.X.env) :: starEach [] F.X.env := by rfl) (hpl : (backTo pos (starEach [] F.X.env)).any (·.1) = false := by rfl) : YE F M ρ (.Call (.Name "list" p2) [a] [] pos) P W := by
  obtain ⟨t, pe, i⟩ := ha
  refine ⟨_, pe_callTy call_list_of hg F.bl.list (by decide +kernel) (pa_cons pe pa_nil he) (he := he) (hpl := hpl), fun σ H Hd Q u a0 k1 _ => i σ H Hd _ a0 fun w H1 Hd1 g1 sl => ?_⟩
  have sl : some w = some (V.ref q) := sl
  cases sl
  have x1 := Ex.grw a0.p u g1
  obtain ⟨⟨vs, e1, da⟩, _⟩ := x1.m _ hm
  exact ⟨q, vs, rfl, .inl (.inl (.inl e1)), fun r hr => k1 _ _ Hd1 _ _ (k r) (x1.new hr ⟨_, upd_same, da⟩) rfl⟩
/-- list(a.values()): new -/
theorem ye_valsF {q : Addr} {kvs : List (Key × PyData)} {mpos : Pos} (ha : SE F M ρ a (.rf q)) (hm : (q, OO.d kvs) ∈ M) (k : ∀ q, P (.rf q) ((q, .l (kvs.map (·.2))) :: M)) (hc : F.X.calm = true := by rfl) (hg : Gl F.X "list" := by rfl) (hb1 : attributeBase a "values" F.X.env (eval a F.X.env) = eval a F.X.env := by rfl) (hb2 : (apos.endLine == mpos.line) = true := by rfl)
    (na : starEach [Expr.Call (.Attribute a "values" apos) [] [] mpos] F.X.env = (false, eval (Expr.Call (.Attribute a "values" apos) [] [] mpos) F.X.env) :: starEach [] F.X.env := by rfl) : YE F M ρ (.Call (.Name "list" p) [.Call (.Attribute a "values" apos) [] [] mpos] [] pos) P W := by
  obtain ⟨t, pe, i⟩ := ha
  refine ⟨_, pe_listVals hc hg F.bl.list pe hb1 hb2 na, fun σ H Hd Q u a0 k1 _ => i σ H Hd _ a0 fun w H1 Hd1 g1 sl => ?_⟩
  have sl : some w = some (V.ref q) := sl
  cases sl
  have x1 := Ex.grw a0.p u g1
  obtain ⟨⟨us, e1, ek, da⟩, _⟩ := x1.m _ hm
  exact ⟨q, us, rfl, e1, fun r hr => k1 _ _ Hd1 _ _ (k r) (x1.new hr ⟨_, upd_same, da⟩) rfl⟩
/-- a.clear() -/
theorem ye_clearL (ha : YE F M ρ a (fun x M1 => ∃ q ds M2, x = .rf q ∧ PutO M1 q (.l ds) (.l []) M2 ∧ P (.da .none) M2) W) (hbase : attributeBase a "clear" F.X.env (eval a F.X.env) = eval a F.X.env := by rfl) (hline : (apos.endLine == pos.line) = true := by rfl) : YE F M ρ (.Call (.Attribute a "clear" apos) [] [] pos) P W := by
  obtain ⟨t, pe, i⟩ := ha
  refine ⟨_, pe_bm0 PySem.F.plainAttrs_list PySem.F.slot_list_clear PySem.F.type_list_clear mt_clear pe hbase hline, fun σ H Hd Q u a0 k1 k2 => i σ H Hd _ u a0 (fun w H1 Hd1 x M1 z x1 sl => ?_) k2⟩
  obtain ⟨q, ds, M2, rfl, hp, hP⟩ := z
  have sl : some w = some (V.ref q) := sl
  cases sl
  obtain ⟨⟨vs, e1, da⟩, _⟩ := x1.m _ hp.mem
  exact ⟨.inl ⟨rfl, vs, .inl (.inl e1)⟩, q, vs, rfl, rfl, e1, k1 .non _ Hd1 _ M2 hP (hp.ex x1 ⟨[], upd_same, .nil⟩) ⟨_, rfl, .non⟩⟩
theorem ye_clearD (ha : YE F M ρ a (fun x M1 => ∃ q kvs M2, x = .rf q ∧ PutO M1 q (.d kvs) (.d []) M2 ∧ P (.da .none) M2) W) (hbase : attributeBase a "clear" F.X.env (eval a F.X.env) = eval a F.X.env := by rfl) (hline : (apos.endLine == pos.line) = true := by rfl) : YE F M ρ (.Call (.Attribute a "clear" apos) [] [] pos) P W := by
  obtain ⟨t, pe, i⟩ := ha
  refine ⟨_, L2.pe_dclear pe hbase hline, fun σ H Hd Q u a0 k1 k2 => i σ H Hd _ u a0 (fun w H1 Hd1 x M1 z x1 sl => ?_) k2⟩
  obtain ⟨q, ds, M2, rfl, hp, hP⟩ := z
  have sl : some w = some (V.ref q) := sl
  cases sl
  obtain ⟨⟨us, e1, ek, da⟩, _⟩ := x1.m _ hp.mem
  exact ⟨.inr (.inr (.inl ⟨rfl, .inl ⟨_, e1⟩⟩)), q, us, rfl, rfl, e1, k1 .non _ Hd1 _ M2 hP (hp.ex x1 ⟨[], upd_same, rfl, .nil⟩) ⟨_, rfl, .non⟩⟩
end
end Dv
namespace Dv
open PySem L2 PyProof.Rows
/-! ### the house that doesn't lie: what stays -/
def insK {α : Type} (x : Int × α) : List (Int × α) → List (Int × α)
  | [] => [x]
  | y :: r => if x.1 ≤ y.1 then x :: y :: r else y :: insK x r
def sortK {α : Type} : List (Int × α) → List (Int × α)
  | [] => []
  | x :: r => insK x (sortK r)
theorem insK_perm {α : Type} (x : Int × α) : ∀ l, (insK x l).Perm (x :: l)
  | [] => .refl _
  | y :: r => by
    unfold insK
    split
    · exact .refl _
    · exact ((insK_perm x r).cons y).trans (.swap _ _ _)
theorem sortK_perm {α : Type} : ∀ l : List (Int × α), (sortK l).Perm l
  | [] => .refl _
  | x :: r => (insK_perm x _).trans ((sortK_perm r).cons x)
theorem insK_sorted {α : Type} (x : Int × α) : ∀ l, l.Pairwise (fun a b => a.1 ≤ b.1) → (insK x l).Pairwise fun a b => a.1 ≤ b.1
  | [], _ => List.pairwise_singleton _ _
  | y :: r, h => by
    have h' := List.pairwise_cons.mp h
    unfold insK
    split
    · rename_i hle
      refine List.pairwise_cons.mpr ⟨fun z hz => ?_, h⟩
      rcases List.mem_cons.mp hz with e | e
      · rw [e]; exact hle
      · exact Int.le_trans hle (h'.1 z e)
    · rename_i hle
      refine List.pairwise_cons.mpr ⟨fun z hz => ?_, insK_sorted x r h'.2⟩
      rcases List.mem_cons.mp ((insK_perm x r).mem_iff.mp hz) with e | e
      · rw [e]; omega
      · exact h'.1 z e
theorem sortK_sorted {α : Type} : ∀ l : List (Int × α), (sortK l).Pairwise fun a b => a.1 ≤ b.1
  | [] => .nil
  | x :: r => insK_sorted x _ (sortK_sorted r)
def ledF (s : Hs) : List (Int × Str) := sortK (s.written.map fun e => (e.1, e.2.1))
theorem led_keys (s : Hs) : ((ledF s).map (·.1)).Perm (s.written.map (·.1)) := by
  have := (sortK_perm (s.written.map fun e => (e.1, e.2.1))).map (·.1)
  rw [List.map_map] at this
  exact this
theorem led_sorted (s : Hs) : ((ledF s).map (·.1)).Pairwise (· ≤ ·) := List.pairwise_map.mpr (sortK_sorted _)
theorem led_len (s : Hs) : (ledF s).length = s.written.length := by
  have := (led_keys s).length_eq
  rwa [List.length_map, List.length_map] at this
def namesD (s : Hs) : List PyData := s.named.map fun e => fNm e.1 e.2
theorem namesD_kv (s : Hs) : (kvK fNm s.named).map (·.2) = namesD s := by
  unfold kvK namesD
  rw [List.map_map]
  rfl
theorem getK_mem {α : Type} {l : List (Int × α)} {i : Int} {x : α} (h : getK l i = some x) : (i, x) ∈ l := by
  unfold getK at h
  cases e : l.find? fun e => decide (e.1 = i) with
  | none => rw [e] at h; cases h
  | some p =>
    rw [e] at h
    have h : p.2 = x := Option.some.inj h
    have h1 := List.mem_of_find?_eq_some e
    have h2 := List.find?_some e
    have h2 : p.1 = i := of_decide_eq_true h2
    rw [← h, ← h2]
    exact h1
theorem getK_of {α : Type} {l : List (Int × α)} (hn : (l.map (·.1)).Nodup) {i : Int} {x : α} (h : (i, x) ∈ l) : getK l i = some x := by
  induction l with
  | nil => cases h
  | cons e l ih =>
    have hn' := List.nodup_cons.mp hn
    unfold getK at ih ⊢
    rw [List.find?_cons]
    rcases List.mem_cons.mp h with q | q
    · rw [← q, decide_eq_true rfl]; rfl
    · have : ¬ e.1 = i := fun z => hn'.1 (by show e.1 ∈ _; rw [z]; exact List.mem_map.mpr ⟨_, q, rfl⟩)
      rw [decide_eq_false this]
      exact ih hn'.2 q
theorem hasK_keys {α : Type} (l : List (Int × α)) (i : Int) : hasK l i = decide (i ∈ l.map (·.1)) := by
  rw [Bool.eq_iff_iff, decide_eq_true_eq]
  unfold hasK
  rw [List.any_eq_true, List.mem_map]
  constructor
  · rintro ⟨e, h, q⟩; exact ⟨e, h, of_decide_eq_true q⟩
  · rintro ⟨e, h, q⟩; exact ⟨e, h, decide_eq_true q⟩
theorem hasK_snoc {α : Type} (l : List (Int × α)) (i j : Int) (x : α) : hasK (l ++ [(i, x)]) j = (hasK l j || decide (i = j)) := by
  unfold hasK
  rw [List.any_append]
  simp
section
variable {s : Hs} {num : Int} {row : Str} {x : Wd} {before : List Wd} {B : Nat}
theorem write_cases (s : Hs) (num : Int) (row : Str) : writeF s num row = (s, []) ∨ (hasK s.written num = false ∧ s.wanted ≤ ((sortW (marksF s.known num row)).length : Int) ∧ writeF s num row = ({ s with written := s.written ++ [(num, (row, sortW (marksF s.known num row)))] }, sortW (marksF s.known num row))) := by
  unfold writeF
  split
  · exact .inl rfl
  · rename_i h
    rw [Bool.or_eq_true, not_or, decide_eq_true_eq] at h
    exact .inr ⟨Bool.eq_false_iff.mpr h.1, by omega, rfl⟩
theorem name_cases (s : Hs) (before : List Wd) (x : Wd) : nameF s before x = (s, []) ∨ ∃ f, f ∈ before ∧ unl f x = true ∧ before.filter (fun a => unl a x) ≠ [] ∧ hasK s.named x.h = false ∧ nameF s before x = ({ s with named := s.named ++ [(x.h, (f, x))] }, [f, x]) := by
  unfold nameF
  split
  · exact .inl rfl
  · rename_i f r e
    cases q : hasK s.named x.h with
    | true => exact .inl rfl
    | false =>
      have : f ∈ before.filter fun a => unl a x := by rw [e]; exact List.mem_cons_self
      exact .inr ⟨f, (List.mem_filter.mp this).1, (List.mem_filter.mp this).2, (fun z => by rw [e] at z; cases z), rfl, rfl⟩
theorem write_ok (h : s.Ok B) (hl : leafOk (.str row)) : (writeF s num row).1.Ok (B + 1) := by
  rcases write_cases s num row with e | ⟨h1, _, e⟩
  · rw [e]
    exact ⟨h.wok, h.nd, Nat.le_succ_of_le h.lk, Nat.le_succ_of_le h.lm, Nat.le_succ_of_le h.lw, Nat.le_succ_of_le h.ln, h.kw, h.om, h.wo, h.no⟩
  · rw [e]
    refine ⟨h.wok, h.nd, Nat.le_succ_of_le h.lk, Nat.le_succ_of_le h.lm, ?_, Nat.le_succ_of_le h.ln, ?_, h.om, fun e he => ?_, h.no⟩
    · show (s.written ++ [_]).length ≤ _
      rw [List.length_append, List.length_singleton]
      exact Nat.succ_le_succ h.lw
    · show ((s.written ++ [_]).map _).Nodup
      rw [List.map_append]
      refine List.nodup_append.mpr ⟨h.kw, by simp, fun a ha b hb z => ?_⟩
      rw [hasK_keys, decide_eq_false_iff_not] at h1
      have hb : b = num := by simpa using hb
      rw [z, hb] at ha
      exact h1 ha
    · rcases List.mem_append.mp he with q | q
      · exact h.wo e q
      · rw [List.mem_singleton.mp q]
        exact ⟨hl, fun y hy => h.wok y (List.mem_filter.mp ((sortW_perm _).mem_iff.mp hy)).1⟩
theorem name_ok (h : s.Ok B) (hb : ∀ y ∈ before, y.ok) (hx : x.ok) : (nameF s before x).1.Ok (B + 1) := by
  rcases name_cases s before x with e | ⟨f, hf, _, _, _, e⟩
  · rw [e]
    exact ⟨h.wok, h.nd, Nat.le_succ_of_le h.lk, Nat.le_succ_of_le h.lm, Nat.le_succ_of_le h.lw, Nat.le_succ_of_le h.ln, h.kw, h.om, h.wo, h.no⟩
  · rw [e]
    refine ⟨h.wok, h.nd, Nat.le_succ_of_le h.lk, Nat.le_succ_of_le h.lm, Nat.le_succ_of_le h.lw, ?_, h.kw, h.om, h.wo, fun e he => ?_⟩
    · show (s.named ++ [_]).length ≤ _
      rw [List.length_append, List.length_singleton]
      exact Nat.succ_le_succ h.ln
    · rcases List.mem_append.mp he with q | q
      · exact h.no e q
      · rw [List.mem_singleton.mp q]; exact ⟨hb f hf, hx⟩
theorem write_len (s : Hs) (num : Int) (row : Str) : (writeF s num row).1.written.length ≤ s.written.length + 1 := by
  rcases write_cases s num row with e | ⟨_, _, e⟩
  · rw [e]; exact Nat.le_succ _
  · rw [e]
    show (s.written ++ [_]).length ≤ _
    rw [List.length_append, List.length_singleton]
    exact Nat.le_refl _
theorem write_same (s : Hs) (num : Int) (row : Str) : (writeF s num row).1.n = s.n ∧ (writeF s num row).1.own = s.own ∧ (writeF s num row).1.wanted = s.wanted ∧ (writeF s num row).1.known = s.known ∧ (writeF s num row).1.marked = s.marked ∧ (writeF s num row).1.named = s.named ∧ (writeF s num row).1.calls = s.calls := by
  rcases write_cases s num row with e | ⟨_, _, e⟩ <;> rw [e] <;> exact ⟨rfl, rfl, rfl, rfl, rfl, rfl, rfl⟩
theorem name_same (s : Hs) (before : List Wd) (x : Wd) : (nameF s before x).1.n = s.n ∧ (nameF s before x).1.own = s.own ∧ (nameF s before x).1.wanted = s.wanted ∧ (nameF s before x).1.known = s.known ∧ (nameF s before x).1.marked = s.marked ∧ (nameF s before x).1.written = s.written ∧ (nameF s before x).1.calls = s.calls := by
  rcases name_cases s before x with e | ⟨_, _, _, _, _, e⟩ <;> rw [e] <;> exact ⟨rfl, rfl, rfl, rfl, rfl, rfl, rfl⟩
/-- a word that a house may hear -/
structure HearOk (s : Hs) (x : Wd) : Prop where
  ok : x.ok
  own : x ∈ s.known ∨ ¬ (x.k = "mark" ∧ x.h = s.own)
/-- known and marked behind a word -/
def sayB (s : Hs) (x : Wd) : Bool := decide (x.k = "say") && !hasK s.marked x.m
def mkW (s : Hs) (x : Wd) : Wd := ⟨"mark", x.m, x.r, s.own⟩
def heard1 (s : Hs) (x : Wd) : Hs := if sayB s x then { s with known := s.known ++ [x] ++ [mkW s x], marked := s.marked ++ [(x.m, x.r)] } else { s with known := s.known ++ [x] }
theorem hearF_eq (s : Hs) (x : Wd) : hearF s x = if x ∈ s.known then (s, []) else ((nameF (writeF (heard1 s x) x.m x.r).1 s.known x).1, (if sayB s x then [mkW s x] else []) ++ (writeF (heard1 s x) x.m x.r).2 ++ (nameF (writeF (heard1 s x) x.m x.r).1 s.known x).2) := rfl
theorem mk_new {s : Hs} {x : Wd} {B : Nat} (h : s.Ok B) (hs : sayB s x = true) : mkW s x ∉ s.known ++ [x] := by
  unfold sayB at hs
  rw [Bool.and_eq_true, decide_eq_true_eq, Bool.not_eq_true'] at hs
  intro z
  rcases List.mem_append.mp z with q | q
  · have := h.om _ q rfl rfl
    rw [show (mkW s x).m = x.m from rfl, hs.2] at this
    cases this
  · have e := congrArg Wd.k (List.mem_singleton.mp q)
    rw [hs.1] at e
    exact absurd (show ("mark" : Str) = "say" from e) (by decide)
theorem mk_ok {s : Hs} {x : Wd} (h : x.ok) : (mkW s x).ok := ⟨⟨show ("mark" : Str).length ≤ 1000 by decide, show PyData.strOk "mark" = true by decide +kernel⟩, h.2⟩
theorem heard1_ok {s : Hs} {x : Wd} {B : Nat} (h : s.Ok B) (hx : HearOk s x) (hn : x ∉ s.known) : (heard1 s x).Ok (B + 2) := by
  have hnd : (s.known ++ [x]).Nodup := List.nodup_append.mpr ⟨h.nd, by simp, fun a ha b hb z => hn (by rw [← List.mem_singleton.mp hb, ← z]; exact ha)⟩
  have hw : ∀ y ∈ s.known ++ [x], y.ok := fun y hy => by
    rcases List.mem_append.mp hy with q | q
    · exact h.wok y q
    · rw [List.mem_singleton.mp q]; exact hx.ok
  have hown : ¬ (x.k = "mark" ∧ x.h = s.own) := hx.own.resolve_left hn
  unfold heard1
  cases e : sayB s x with
  | true =>
    rw [if_pos rfl]
    refine ⟨fun y hy => ?_, List.nodup_append.mpr ⟨hnd, by simp, fun a ha b hb z => mk_new h e (by rw [← List.mem_singleton.mp hb, ← z]; exact ha)⟩, ?_, ?_, Nat.le_trans h.lw (by omega), Nat.le_trans h.ln (by omega), h.kw, (fun y hy h1 h2 => ?_), h.wo, h.no⟩
    · rcases List.mem_append.mp hy with q | q
      · exact hw y q
      · rw [List.mem_singleton.mp q]; exact mk_ok hx.ok
    · show (s.known ++ [x] ++ [_]).length ≤ _
      have := h.lk
      simp only [List.length_append, List.length_singleton]; omega
    · show (s.marked ++ [_]).length ≤ _
      have := h.lm
      simp only [List.length_append, List.length_singleton]; omega
    · show hasK (s.marked ++ [(x.m, x.r)]) y.m = true
      rw [hasK_snoc]
      rcases List.mem_append.mp hy with q | q
      · rcases List.mem_append.mp q with z | z
        · rw [h.om y z h1 h2]; rfl
        · rw [List.mem_singleton.mp z, decide_eq_true rfl, Bool.or_true]
      · rw [List.mem_singleton.mp q]
        show (_ || decide (x.m = x.m)) = true
        rw [decide_eq_true rfl, Bool.or_true]
  | false =>
    rw [if_neg (fun z => nomatch z)]
    refine ⟨hw, hnd, ?_, Nat.le_trans h.lm (by omega), Nat.le_trans h.lw (by omega), Nat.le_trans h.ln (by omega), h.kw, (fun y hy h1 h2 => ?_), h.wo, h.no⟩
    · show (s.known ++ [x]).length ≤ _
      have := h.lk
      simp only [List.length_append, List.length_singleton]; omega
    · rcases List.mem_append.mp hy with q | q
      · exact h.om y q h1 h2
      · rw [List.mem_singleton.mp q] at h1 h2
        exact absurd ⟨h1, h2⟩ hown
theorem Hs.Ok.up {s : Hs} {B C : Nat} (h : s.Ok B) (l : B ≤ C) : s.Ok C := ⟨h.wok, h.nd, Nat.le_trans h.lk l, Nat.le_trans h.lm l, Nat.le_trans h.lw l, Nat.le_trans h.ln l, h.kw, h.om, h.wo, h.no⟩
theorem hear_ok {s : Hs} {x : Wd} {B : Nat} (h : s.Ok B) (hx : HearOk s x) : (hearF s x).1.Ok (B + 4) := by
  rw [hearF_eq]
  split
  · exact h.up (by omega)
  · rename_i hn
    exact name_ok (write_ok (heard1_ok h hx hn) hx.ok.2) h.wok hx.ok
theorem heard1_same (s : Hs) (x : Wd) : (heard1 s x).n = s.n ∧ (heard1 s x).own = s.own ∧ (heard1 s x).wanted = s.wanted ∧ (heard1 s x).written = s.written ∧ (heard1 s x).named = s.named ∧ (heard1 s x).calls = s.calls := by
  unfold heard1
  split <;> exact ⟨rfl, rfl, rfl, rfl, rfl, rfl⟩
theorem hear_same (s : Hs) (x : Wd) : (hearF s x).1.n = s.n ∧ (hearF s x).1.own = s.own ∧ (hearF s x).1.wanted = s.wanted ∧ (hearF s x).1.calls = s.calls := by
  rw [hearF_eq]
  split
  · exact ⟨rfl, rfl, rfl, rfl⟩
  · obtain ⟨a1, a2, a3, _, _, a6⟩ := heard1_same s x
    obtain ⟨b1, b2, b3, _, _, _, b7⟩ := write_same (heard1 s x) x.m x.r
    obtain ⟨c1, c2, c3, _, _, _, c7⟩ := name_same (writeF (heard1 s x) x.m x.r).1 s.known x
    exact ⟨c1.trans (b1.trans a1), c2.trans (b2.trans a2), c3.trans (b3.trans a3), c7.trans (b7.trans a6)⟩
theorem hear_wlen (s : Hs) (x : Wd) : (hearF s x).1.written.length ≤ s.written.length + 1 := by
  rw [hearF_eq]
  split
  · exact Nat.le_succ _
  · have a := (heard1_same s x).2.2.2.1
    have b := write_len (heard1 s x) x.m x.r
    have c := (name_same (writeF (heard1 s x) x.m x.r).1 s.known x).2.2.2.2.2.1
    show (nameF _ _ _).1.written.length ≤ _
    rw [c]
    rw [a] at b
    exact b
end
theorem callOk_all {g : Gm} {xs : List Sl} {M Mc : Ms} {P : Sl → Ms → Prop} {W : Addr → Ms → Prop} (hp : M.Perm Mc) (hg : g xs Mc P W) : CallOk g xs M P W := ⟨Mc, [], P, W, by rw [List.append_nil]; exact hp, hg, fun x M' h => by rw [List.append_nil]; exact h, fun x M' h => by rw [List.append_nil]; exact h⟩
end Dv
namespace Dv
open PySem L2 PyProof.Rows
/-! ### the house's methods: what each promises -/
def lamH : Str := "House.marks.<locals>.<lambda>"
abbrev hM (a : HA) (s : Hs) : Ms := [(a.p, .o a.C [("wanted", .da (.int s.wanted)), ("count", .da (.int s.n)), ("own", .da (.int s.own)), ("known", .rf a.k), ("marked", .rf a.m), ("written", .rf a.w), ("named", .rf a.nm), ("calls", .da (.int s.calls))]), (a.k, .l (s.known.map wd)), (a.m, .d (kvK fMk s.marked)), (a.w, .d (kvK fWr s.written)), (a.nm, .d (kvK fNm s.named)), (a.P, .t lamH)]
def mostL (n : Int) : Int := (n - 1) / 3
def enoughL (n : Int) : Int := (n + mostL n) / 2 + 1
def hs0 (n own : Int) : Hs := ⟨n, own, enoughL n, [], [], [], [], 0⟩
theorem hs0_ok (n own : Int) : (hs0 n own).Ok 0 := ⟨(fun _ h => nomatch h), List.nodup_nil, Nat.le_refl _, Nat.le_refl _, Nat.le_refl _, Nat.le_refl _, List.nodup_nil, (fun _ h => nomatch h), (fun _ h => nomatch h), (fun _ h => nomatch h)⟩
structure HouseC (K : PySem.W.Frag) (C : Addr) : Prop where
  c : Cls K C
  a1 : NoAttr K C "wanted"
  a2 : NoAttr K C "count"
  a3 : NoAttr K C "own"
  a4 : NoAttr K C "known"
  a5 : NoAttr K C "marked"
  a6 : NoAttr K C "written"
  a7 : NoAttr K C "named"
  a8 : NoAttr K C "calls"
def g_hinit (C CB CH : Addr) : Gm := fun xs M R W => ∃ p x y, xs = [.rf p, .da x, .da y] ∧ M = [(p, .o C [])] ∧
  ((∃ n own : Int, x = .int n ∧ y = .int own ∧ 1 ≤ n ∧ n ≤ 12 ∧ 0 ≤ own ∧ own < n ∧ ∀ k m w nm P, R (.da .none) (houseM ⟨C, p, k, m, w, nm, P⟩ (hs0 n own))) ∨
   (isAmong x 1 12 = false ∧ W CB []) ∨ (∃ n : Int, x = .int n ∧ 1 ≤ n ∧ n ≤ 12 ∧ isAmong y 0 (n - 1) = false ∧ W CH []))
def g_marks (C PT : Addr) : Gm := fun xs M R W => ∃ a s num row, xs = [.rf a.p, .da (.int num), .da (.str row)] ∧ M = hM a s ∧ a.C = C ∧ a.P = PT ∧ s.Ok 200000 ∧ leafOk (.str row) ∧ R (.da (.list ((sortW (marksF s.known num row)).map wd))) (hM a s)
def g_write (C PT : Addr) : Gm := fun xs M R W => ∃ a s num row, xs = [.rf a.p, .da (.int num), .da (.str row)] ∧ M = hM a s ∧ a.C = C ∧ a.P = PT ∧ s.Ok 200000 ∧ leafOk (.str row) ∧ R (.da (.list ((writeF s num row).2.map wd))) (hM a (writeF s num row).1)
def g_name (C PT : Addr) : Gm := fun xs M R W => ∃ a s bef x, xs = [.rf a.p, .da (.list (bef.map wd)), .da (wd x)] ∧ M = hM a s ∧ a.C = C ∧ a.P = PT ∧ s.Ok 200000 ∧ bef.length ≤ 200000 ∧ (∀ y ∈ bef, y.ok) ∧ R (.da (.list ((nameF s bef x).2.map wd))) (hM a (nameF s bef x).1)
def g_hear (C PT : Addr) : Gm := fun xs M R W => ∃ a s x, xs = [.rf a.p, .da (wd x)] ∧ M = hM a s ∧ a.C = C ∧ a.P = PT ∧ s.Ok 100000 ∧ HearOk s x ∧ ∀ q, R (.rf q) ((q, .l ((hearF s x).2.map wd)) :: hM a (hearF s x).1)
def g_hcall (C PT CR : Addr) : Gm := fun xs M R W => ∃ a s x, xs = [.rf a.p, .da x] ∧ M = hM a s ∧ a.C = C ∧ a.P = PT ∧ s.Ok 100000 ∧ leafOk x ∧ (0 ≤ s.n ∧ s.n ≤ 1000 ∧ 0 ≤ s.calls ∧ s.calls ≤ 1000) ∧
  ((∃ r, x = .str r ∧ isRow x = true ∧ ∀ q, R (.rf q) ((q, .l ((callF s r).2.map wd)) :: hM a (callF s r).1)) ∨ (isRow x = false ∧ W CR (hM a s)))
def g_ledger (C : Addr) : Gm := fun xs M R W => ∃ a s, xs = [.rf a.p] ∧ M = houseM a s ∧ a.C = C ∧ s.Ok 63 ∧ ∀ q, R (.rf q) ((q, .d (kvK fMk (ledF s))) :: houseM a s)
def g_hback (C N : Addr) : Gm := fun xs M R W => ∃ a s x, xs = [.rf a.p, .da x] ∧ M = houseM a s ∧ a.C = C ∧ ((∃ i y, x = .int i ∧ 0 ≤ i ∧ i ≤ 9999 ∧ getK s.written i = some y ∧ ∀ q, R (.rf q) ((q, .l (y.2.map wd)) :: houseM a s)) ∨ ((∀ i, x = .int i → 0 ≤ i → i ≤ 9999 → getK s.written i = none) ∧ W N (houseM a s)))
def g_caught (C : Addr) : Gm := fun xs M R W => ∃ a s, xs = [.rf a.p] ∧ M = houseM a s ∧ a.C = C ∧ ∀ q, R (.rf q) ((q, .l (namesD s)) :: houseM a s)
theorem wds_dok {ws : List Wd} {n : Nat} (h : ∀ x ∈ ws, x.ok) : DOkA (n + 1) (ws.map wd) := doka_of fun d hd => by
  obtain ⟨x, hx, rfl⟩ := List.mem_map.mp hd
  exact wd_dok (h x hx)
theorem cp_words {φ : PyData → Bool → Option PyData → Prop} (p : Wd → Bool) : ∀ {ws : List Wd}, (∀ x ∈ ws, φ (wd x) (p x) (if p x = true then some (wd x) else none)) → Cp φ (ws.map wd) ((ws.filter p).map wd)
  | [], _ => .nil
  | x :: r, h => by
    have ih := cp_words p (ws := r) fun z hz => h z (List.mem_cons_of_mem _ hz)
    have q := h x List.mem_cons_self
    cases e : p x with
    | true =>
      rw [e, if_pos rfl] at q
      rw [List.filter_cons_of_pos e]
      exact .yes q ih
    | false =>
      rw [e, if_neg (fun z => nomatch z)] at q
      rw [List.filter_cons_of_neg (fun z => by rw [e] at z; cases z)]
      exact .no q ih
theorem atI_zero {α : Type} (x : α) (l : List α) : atI (x :: l) 0 = some x := by
  rw [atI_in x (Int.le_refl 0) (by rw [List.length_cons]; omega)]
  rfl
theorem nil_eqv (ws : List Wd) : PyData.eqv (.list (ws.map wd)) (.list []) = ws.isEmpty := by
  cases ws with
  | nil => rfl
  | cons x r => simp [PyData.eqv, PyData.eqvAll]
theorem mark_cut (x : Wd) : cutX (wd x) none (some 3) = .tuple [.str x.k, .int x.m, .str x.r] := rfl
theorem mark_eqv (x : Wd) (num : Int) (row : Str) : PyData.eqv (.tuple [.str x.k, .int x.m, .str x.r]) (.tuple [.str "mark", .int num, .str row]) = isMark num row x := eqv_three ..
theorem marks_len (s : Hs) (num : Int) (row : Str) : (sortW (marksF s.known num row)).length ≤ s.known.length := by
  rw [(sortW_perm _).length_eq]
  exact List.length_filter_le _ _
theorem write_len2 (s : Hs) (num : Int) (row : Str) : (writeF s num row).2.length ≤ s.known.length := by
  rcases write_cases s num row with e | ⟨_, _, e⟩
  · rw [e]; exact Nat.zero_le _
  · rw [e]; exact marks_len s num row
theorem name_len2 (s : Hs) (bef : List Wd) (x : Wd) : (nameF s bef x).2.length ≤ 2 := by
  rcases name_cases s bef x with e | ⟨_, _, _, _, _, e⟩
  · rw [e]; exact Nat.zero_le _
  · rw [e]; exact Nat.le_refl _
theorem hear_len2 (s : Hs) (x : Wd) : (hearF s x).2.length ≤ s.known.length + 5 := by
  rw [hearF_eq]
  split
  · exact Nat.zero_le _
  · have h1 : (if sayB s x then [mkW s x] else []).length ≤ 1 := by split <;> simp
    have h2 := write_len2 (heard1 s x) x.m x.r
    have h3 := name_len2 (writeF (heard1 s x) x.m x.r).1 s.known x
    have h4 : (heard1 s x).known.length ≤ s.known.length + 2 := by
      unfold heard1
      split <;> simp
    have e := @List.length_append Wd
    show List.length (_ ++ _ ++ _) ≤ _
    rw [e, e]
    omega
end Dv
namespace Dv
open PySem PySem.Spec PyProof.Rows L2
/-! ### data with dicts in it, equal -/
def Alk : Nat → PyData → PyData → Prop
  | 0, _, _ => False
  | n + 1, d, e => (SeqAt.shaped d = true ∧ SeqAt.shaped e = true ∧ PyData.eqv d e = true) ∨ (∃ xs ys, d = .list xs ∧ e = .list ys ∧ Paired (Alk n) xs ys) ∨ (∃ xs ys, d = .tuple xs ∧ e = .tuple ys ∧ Paired (Alk n) xs ys) ∨
    (∃ ks ls : List (Key × PyData), d = dicD ks ∧ e = dicD ls ∧ ks.length = ls.length ∧ ∀ p ∈ ks, ∃ u, valD ls p.1 = some u ∧ Alk n p.2 u)
theorem keyD_inj : ∀ {a b : Key}, keyD a = keyD b → a = b
  | .inl i, .inl j, h => by cases h; rfl
  | .inr i, .inr j, h => by cases h; rfl
  | .inl i, .inr j, h => nomatch h
  | .inr i, .inl j, h => nomatch h
theorem dtK_inv {K : PySem.W.Frag} {H : Hp} : ∀ {us : List (Key × V)} {kvs : List (Key × PyData)}, DtK K H us (kvs.map fun kv => (keyD kv.1, kv.2)) → us.map (·.1) = kvs.map (·.1) ∧ DtA K H (us.map (·.2)) (kvs.map (·.2))
  | [], [], _ => ⟨rfl, .nil⟩
  | u :: us, kv :: kvs, h => by
    have h : DtK K H (u :: us) ((keyD kv.1, kv.2) :: kvs.map fun kv => (keyD kv.1, kv.2)) := h
    obtain ⟨k, v⟩ := u
    generalize hk : keyD kv.1 = kd at h
    cases h with
    | cons a b =>
      have e := keyD_inj hk
      obtain ⟨e1, e2⟩ := dtK_inv b
      exact ⟨by rw [List.map_cons, List.map_cons, e1, e], .cons a e2⟩
  | [], _ :: _, h => nomatch h
  | _ :: _, [], h => nomatch h
section
variable {X : Cx} {pins : List (Addr × Obj)} {σ : L2.St} {H : Hp} {s : Shared}
theorem items_tree {n : Nat} {F : PyData → PyData → Prop} (ih : ∀ d e x y v u, F d e → Dt X.K H x d → Dt X.K H y e → RelV x v → RelV y u → PySem.W.EqTree X.prog X.w s n v u true) : ∀ {ds es : List PyData}, Paired F ds es → ∀ {xs ys : List V} {us ws : List Value}, DtA X.K H xs ds → DtA X.K H ys es → Vals xs us → Vals ys ws →
    us.length = ws.length ∧ ∀ j (h1 : j < us.length) (h2 : j < ws.length), PySem.W.EqTree X.prog X.w s n us[j] ws[j] true := by
  intro ds es hp
  induction hp with
  | nil =>
    intro xs ys us ws d1 d2 r1 r2
    cases d1; cases d2; cases r1; cases r2
    exact ⟨rfl, fun j h1 => absurd h1 (Nat.not_lt_zero j)⟩
  | cons a b k =>
    intro xs ys us ws d1 d2 r1 r2
    cases d1 with
    | cons p1 q1 =>
    cases d2 with
    | cons p2 q2 =>
    cases r1 with
    | cons s1 t1 =>
    cases r2 with
    | cons s2 t2 =>
    obtain ⟨e1, e2⟩ := k q1 q2 t1 t2
    refine ⟨congrArg (· + 1) e1, fun j h1 h2 => ?_⟩
    cases j with
    | zero => exact ih _ _ _ _ _ _ a p1 p2 s1 s2
    | succ j => exact e2 j (Nat.lt_of_succ_lt_succ h1) (Nat.lt_of_succ_lt_succ h2)
theorem all_true (n : Nat) : ((List.range n).all fun _ => true) = true := List.all_eq_true.mpr fun _ _ => rfl
theorem alk_tree (I : Inv X pins σ H s) : ∀ (n : Nat) (d e : PyData) (x y : V) (v u : Value), Alk n d e → Dt X.K H x d → Dt X.K H y e → RelV x v → RelV y u → PySem.W.EqTree X.prog X.w s (n + 64) v u true
  | 0, _, _, _, _, _, _, h, _, _, _, _ => h.elim
  | n + 1, d, e, x, y, v, u, h, dx, dy, rx, ry => by
    have ih := alk_tree I n
    rcases h with ⟨sd, se, q⟩ | ⟨ds, es, rfl, rfl, hp⟩ | ⟨ds, es, rfl, rfl, hp⟩ | ⟨ks, ls, rfl, rfl, hl, hk⟩
    · obtain ⟨as, r1⟩ := Dp.reads I d x v (dx.dpS sd) rx
      obtain ⟨bs, r2⟩ := Dp.reads I e y u (dy.dpS se) ry
      refine .leaf fun A hu => ?_
      have := SeqAt.eqAt_reads d e A s v u as bs r1 r2 (SeqAt.canLay_of_shaped sd) (SeqAt.canLay_of_shaped se) (by
        have : d.depth ≤ 64 := by
          unfold SeqAt.shaped at sd
          rw [Bool.and_eq_true, decide_eq_true_eq] at sd
          exact sd.2
        omega)
      rwa [q] at this
    · cases dx with
      | @lst a xs _ r1 q1 =>
      cases dy with
      | @lst b ys _ r2 q2 =>
      obtain rfl : v = Value.ref a := rx
      obtain rfl : u = Value.ref b := ry
      by_cases hab : a = b
      · subst hab; exact .same
      obtain ⟨us, v1, p1, _⟩ := I.list r1
      obtain ⟨ws, v2, p2, _⟩ := I.list r2
      obtain ⟨el, et⟩ := items_tree ih hp q1 q2 v1 v2
      have t := PySem.W.EqTree.lists (prog := X.prog) (w := X.w) (n := n + 64) (e := fun _ => true) hab p1.isList p2.isList (by simpa using el) (fun j h1 h2 => by simpa using et j (by simpa using h1) (by simpa using h2))
      rw [all_true, show n + 64 + 1 = n + 1 + 64 by omega] at t
      exact t
    · cases dx with
      | @tup a xs _ r1 q1 =>
      cases dy with
      | @tup b ys _ r2 q2 =>
      obtain rfl : v = Value.ref a := rx
      obtain rfl : u = Value.ref b := ry
      by_cases hab : a = b
      · subst hab; exact .same
      obtain ⟨us, v1, p1, _⟩ := I.tuple (.inl r1)
      obtain ⟨ws, v2, p2, _⟩ := I.tuple (.inl r2)
      obtain ⟨el, et⟩ := items_tree ih hp q1 q2 v1 v2
      have t := PySem.W.EqTree.tuples (prog := X.prog) (w := X.w) (n := n + 64) (e := fun _ => true) hab p1 p2 (fun j h1 h2 => by simpa using et j (by simpa using h1) (by simpa using h2))
      rw [all_true, show n + 64 + 1 = n + 1 + 64 by omega] at t
      have e3 : (us.toArray.size == ws.toArray.size) = true := by simpa using el
      rw [e3] at t
      exact t
    · cases dx with
      | @dic a xs _ r1 q1 =>
      cases dy with
      | @dic b ys _ r2 q2 =>
      obtain rfl : v = Value.ref a := rx
      obtain rfl : u = Value.ref b := ry
      by_cases hab : a = b
      · subst hab; exact .same
      obtain ⟨_, ya, va, ra, da⟩ := (show ObjOk X.prog X.w H s.heap a (.dK xs) from I.hok a _ r1)
      obtain ⟨_, yb, vb, rb, db⟩ := (show ObjOk X.prog X.w H s.heap b (.dK ys) from I.hok b _ r2)
      obtain ⟨k1, d1⟩ := dtK_inv q1
      obtain ⟨k2, d2⟩ := dtK_inv q2
      have hits : ∀ p ∈ va, ∃ y', valueAt vb p.1 = some y' ∧ PySem.W.EqTree X.prog X.w s (n + 64) p.2 y' true := by
        intro p hp
        obtain ⟨j, hj⟩ := List.mem_iff_getElem?.mp hp
        obtain ⟨x', hx, rx'⟩ := KV.at' ra (show va[j]? = some (p.1, p.2) from hj)
        have hkj : (ks.map (·.1))[j]? = some p.1 := by rw [← k1, List.getElem?_map, hx]; rfl
        have hdj : (xs.map (·.2))[j]? = some x' := by rw [List.getElem?_map, hx]; rfl
        obtain ⟨dd, hdd, dx'⟩ := d1.getV hdj
        rw [List.getElem?_map] at hkj hdd
        cases hkv : ks[j]? with
        | none => rw [hkv] at hkj; cases hkj
        | some kv =>
        rw [hkv] at hkj hdd
        have e1 : kv.1 = p.1 := Option.some.inj hkj
        have e2 : kv.2 = dd := Option.some.inj hdd
        obtain ⟨ud, hu1, hu2⟩ := hk kv (List.mem_of_getElem? hkv)
        obtain ⟨yv, hy1, dy'⟩ := (Dv.valV_map kv.1 k2 d2).2 ud hu1
        have rr : RelO (some yv) (valueAt vb kv.1) := by rw [← hy1]; exact rb.val kv.1
        obtain ⟨y', hy2, ry'⟩ := rr.some_of
        refine ⟨y', by rw [← e1]; exact hy2, ?_⟩
        exact ih kv.2 ud x' yv p.2 y' hu2 (by rw [e2]; exact dx') dy' rx' ry'
      have t := PySem.W.EqTree.dicts (prog := X.prog) (w := X.w) (n := n + 64) (e := fun _ => true) hab ya yb da db fun k v' y' hm hv => by
        obtain ⟨y2, e2, t2⟩ := hits _ hm
        rw [hv] at e2
        cases e2
        exact t2
      have e1 : va.length = vb.length := by
        have a1 := congrArg List.length k1
        have a2 := congrArg List.length k2
        rw [List.length_map, List.length_map] at a1 a2
        rw [← ra.length, ← rb.length]; omega
      have e2 : (va.all fun p => (valueAt vb p.1).isSome && true) = true := List.all_eq_true.mpr fun p hp => by
        obtain ⟨y2, e3, _⟩ := hits p hp
        rw [e3]; rfl
      rw [e1, e2, show n + 64 + 1 = n + 1 + 64 by omega] at t
      simpa using t
end
section
open PySem.SeqAt AutoSeq1 MeetsSeq MeetsSeq2 MeetsSeq3 SeqRoads2
variable {prog : Program} {w : World}
/-- != of two lists whose items are equal: its turns -/
theorem ne_turns (a1 a2 : Addr) (us ws : Array Value) (c1 c2 : Nat) (x1 x2 : Option Addr) (y1 y2 : Array (Option Value)) (eqs : us.size = ws.size) : ∀ (left i : Nat), us.size = i + left →
    MeetsIn prog w (Builtin.«list.__eq__.loop» ⟨[.ref a1, .ref a2, rawInt i, rawInt 3], []⟩) (fun A R s => (s.heap.get? a1 = some { cls := .type "list", dict := x1, data := .seq us c1, slots := y1 } ∧ s.heap.get? a2 = some { cls := .type "list", dict := x2, data := .seq ws c2, slots := y2 }) ∧
      (∀ j (h1 : j < us.size) (h2 : j < ws.size), EqIn prog w A.in1 s us[j] ws[j] true) ∧ R (.ok (.ret (.bool false))) s) := by
  intro left
  induction left with
  | zero =>
    intro i hi A R s hyp
    obtain ⟨hp, g, d, tk, os⟩ := s
    obtain ⟨⟨o1, o2⟩, _, fin⟩ := hyp
    wp_walk using wpAny_loadPart' o1, wpAny_loadPart' o2
    have n1 : us[((i : Nat) : Int).toNat]? = none := by rw [Int.toNat_natCast]; exact Array.getElem?_eq_none (by omega)
    have n2 : ws[((i : Nat) : Int).toNat]? = none := by rw [Int.toNat_natCast]; exact Array.getElem?_eq_none (by omega)
    rw [n1, n2]
    wp_walk using wpAny_loadPart' o1, wpAny_loadPart' o2
    show R (.ok (.ret (.bool (us.size != ws.size)))) _
    rw [eqs, bne_self_eq_false]
    exact fin
  | succ left again =>
    intro i hi A R s hyp
    obtain ⟨hp, g, d, tk, os⟩ := s
    obtain ⟨⟨o1, o2⟩, its, fin⟩ := hyp
    wp_walk using wpAny_loadPart' o1, wpAny_loadPart' o2
    have i1 : i < us.size := by omega
    have i2 : i < ws.size := eqs ▸ i1
    have n1 : us[((i : Nat) : Int).toNat]? = some us[i] := by rw [Int.toNat_natCast]; exact Array.getElem?_eq_getElem i1
    have n2 : ws[((i : Nat) : Int).toNat]? = some ws[i] := by rw [Int.toNat_natCast]; exact Array.getElem?_eq_getElem i2
    rw [n1, n2]
    refine wpAny_bind (its i i1 i2 _ _ ?_)
    wp_walk
    have next : ((i : Int) + 1) = ((i + 1 : Nat) : Int) := (Int.natCast_succ i).symm
    rw [next]
    refine ⟨plainId_quiet plain_eq_loop _, codeAny_builtin entry_eq_loop ?_⟩
    have step := again (i + 1) (by omega) A R ⟨hp, g, d, tk, os⟩ ⟨⟨o1, o2⟩, its, fin⟩
    rwa [Around.under_plainId plain_eq_loop _]
theorem ne_same (a1 a2 : Addr) (us ws : Array Value) (c1 c2 : Nat) (x1 x2 : Option Addr) (y1 y2 : Array (Option Value)) (eqs : us.size = ws.size) :
    MeetsIn prog w (Builtin.«list.__ne__» ⟨[.ref a1, .ref a2], []⟩) (fun A R s => (s.heap.get? a1 = some { cls := .type "list", dict := x1, data := .seq us c1, slots := y1 } ∧ s.heap.get? a2 = some { cls := .type "list", dict := x2, data := .seq ws c2, slots := y2 }) ∧
      (∀ j (h1 : j < us.size) (h2 : j < ws.size), EqIn prog w A.in1 s us[j] ws[j] true) ∧ R (.ok (.ret (.bool false))) s) := by
  intro A R s hyp
  obtain ⟨hp, g, d, tk, os⟩ := s
  obtain ⟨⟨o1, o2⟩, its, fin⟩ := hyp
  have lists := AutoSeq1.sub_list_list
  have noLen : ¬ (us.size != ws.size) = true := fun z => by rw [eqs, bne_self_eq_false] at z; cases z
  wp_walk using wpAny_loadPart' o1, wpAny_loadPart' o2
  refine ⟨plainId_quiet plain_eq_loop _, codeAny_builtin entry_eq_loop ?_⟩
  have step := ne_turns a1 a2 us ws c1 c2 x1 x2 y1 y2 eqs us.size 0 (Nat.zero_add _).symm A R ⟨hp, g, d, tk, os⟩ ⟨⟨o1, o2⟩, its, fin⟩
  rwa [Around.under_plainId plain_eq_loop _]
end
section
variable {X : Cx}
def rAlkL (K : PySem.W.Frag) (z : Bool) : R2 := fun x y H Q => ∃ n ds es, n ≤ 60 ∧ Paired (Alk n) ds es ∧ Dt K H x (.list ds) ∧ Dt K H y (.list es) ∧ Q (.bl z) H
theorem op_neAlk (hu : X.A.units + 128 < cLine) : OpR X (compareOp .NotEq) (rAlkL X.K false) := by
  intro pins s σ H x y v u Q I rx ry h
  obtain ⟨n, ds, es, hn, hp, dx, dy, q⟩ := h
  cases dx with
  | @lst a xs _ r1 q1 =>
  cases dy with
  | @lst b ys _ r2 q2 =>
  obtain rfl : v = Value.ref a := rx
  obtain rfl : u = Value.ref b := ry
  obtain ⟨us, v1, p1, _⟩ := I.list r1
  obtain ⟨ws, v2, p2, _⟩ := I.list r2
  obtain ⟨el, et⟩ := items_tree (alk_tree I n) hp q1 q2 v1 v2
  obtain ⟨⟨cls, dd, data, sl⟩, ho, hc, m1, hd⟩ := id p1.isList
  obtain ⟨⟨cls2, dd2, data2, sl2⟩, ho2, hc2, m2, hd2⟩ := id p2.isList
  simp only at hc hd hc2 hd2
  subst hc hd hc2 hd2
  refine wpAny_richCompare_same_room (op := .NotEq) ⟨_, ho, rfl⟩ ⟨_, ho2, rfl⟩ F.slot_list_ne (call_meetsIn F.slot_list_ne ⟨_, ho, rfl⟩ F.entry_list_ne (F.args_list_ne_2 _ _) (ne_same a b us.toArray ws.toArray m1 m2 dd dd2 sl sl2 (by simpa using el)) ⟨⟨ho, ho2⟩, fun j h1 h2 => ?_, fun z => (nomatch z), .bl false, H, I, rfl, q⟩) (by omega)
  have := (et j (by simpa using h1) (by simpa using h2)).at X.A.in1 (by show X.A.units + 1 + _ < cLine; omega)
  simpa using this
theorem bd_neAlk {ds es : List PyData} {n : Nat} (hu : X.A.units + 128 < cLine) (hn : n ≤ 60) (h : Paired (Alk n) ds es) : BinD X (compareOp .NotEq) (.list ds) (.list es) (.bool false) :=
  ⟨_, op_neAlk hu, fun x y H Hd Q s dx dy k => ⟨n, ds, es, hn, h, dx.mono s, dy.mono s, k _ H Hd (.refl s) (.bl _)⟩⟩
/-- dicts with plain values -/
def flatD : PyData → Bool
  | .none | .bool _ | .int _ | .str _ => true
  | _ => false
theorem flat_one {K : PySem.W.Frag} {H H' : Hp} {v w : V} {d : PyData} (h : Dt K H v d) (g : Dt K H' w d) (f : flatD d = true) : v = w ∧ flatB w = true := by
  cases h <;> cases g <;> first | exact ⟨rfl, rfl⟩ | cases f
def DicSame (ks ls : List (Key × PyData)) : Prop := ks.length = ls.length ∧ ∀ p ∈ ks, valD ls p.1 = some p.2 ∧ flatD p.2 = true
theorem dicV {K : PySem.W.Frag} {H : Hp} {us ws : List (Key × V)} {ks ls : List (Key × PyData)} (h : DicSame ks ls) (d1 : DtK K H us (ks.map fun kv => (keyD kv.1, kv.2))) (d2 : DtK K H ws (ls.map fun kv => (keyD kv.1, kv.2))) : us.length = ws.length ∧ ∀ p ∈ us, valV ws p.1 = some p.2 ∧ flatB p.2 = true := by
  obtain ⟨k1, a1⟩ := dtK_inv d1
  obtain ⟨k2, a2⟩ := dtK_inv d2
  have l1 := congrArg List.length k1
  have l2 := congrArg List.length k2
  rw [List.length_map, List.length_map] at l1 l2
  refine ⟨by rw [l1, l2]; exact h.1, fun p hp => ?_⟩
  obtain ⟨j, hj⟩ := List.mem_iff_getElem?.mp hp
  have hkj : (ks.map (·.1))[j]? = some p.1 := by rw [← k1, List.getElem?_map, hj]; rfl
  have hdj : (us.map (·.2))[j]? = some p.2 := by rw [List.getElem?_map, hj]; rfl
  obtain ⟨dd, hdd, dx'⟩ := a1.getV hdj
  rw [List.getElem?_map] at hkj hdd
  cases hkv : ks[j]? with
  | none => rw [hkv] at hkj; cases hkj
  | some kv =>
  rw [hkv] at hkj hdd
  have e1 : kv.1 = p.1 := Option.some.inj hkj
  have e2 : kv.2 = dd := Option.some.inj hdd
  obtain ⟨hv, hf⟩ := h.2 kv (List.mem_of_getElem? hkv)
  obtain ⟨yv, hy1, dy'⟩ := (Dv.valV_map kv.1 k2 a2).2 kv.2 hv
  rw [← e2] at dx'
  obtain ⟨e3, e4⟩ := flat_one dy' dx' hf
  rw [← e1, hy1, e3]
  exact ⟨rfl, e4⟩
theorem bd_neDic {ks ls : List (Key × PyData)} (hu : X.A.units + 128 < cLine) (h : DicSame ks ls) : BinD X (compareOp .NotEq) (dicD ks) (dicD ls) (.bool false) := ⟨_, op_ne_dictA (by omega), fun x y H Hd Q s dx dy k => by
  cases dx with
  | dic r1 q1 =>
  cases dy with
  | dic r2 q2 =>
  obtain ⟨e1, e2⟩ := dicV h q1 q2
  exact ⟨_, _, _, _, rfl, rfl, s _ _ r1, s _ _ r2, e1, e2, k _ H Hd (.refl s) (.bl _)⟩⟩
theorem bd_eqDic {ks ls : List (Key × PyData)} (hu : X.A.units + 128 < cLine) (h : DicSame ks ls) : BinD X (compareOp .Eq) (dicD ks) (dicD ls) (.bool true) := ⟨_, op_eq_dictA (by omega), fun x y H Hd Q s dx dy k => by
  cases dx with
  | dic r1 q1 =>
  cases dy with
  | dic r2 q2 =>
  obtain ⟨e1, e2⟩ := dicV h q1 q2
  exact ⟨_, _, _, _, rfl, rfl, s _ _ r1, s _ _ r2, e1, e2, k _ H Hd (.refl s) (.bl _)⟩⟩
end
/-- one and the same -/
theorem alk_refl {n : Nat} {d : PyData} (h : SeqAt.shaped d = true) : Alk (n + 1) d d := .inl ⟨h, h, SeqAt.eqv_refl d (SeqAt.canLay_of_shaped h)⟩
theorem valD_self {ks : List (Key × PyData)} (hn : (ks.map (·.1)).Nodup) {p : Key × PyData} (h : p ∈ ks) : valD ks p.1 = some p.2 := by
  induction ks with
  | nil => cases h
  | cons k ks ih =>
    have hn' := List.nodup_cons.mp hn
    rcases List.mem_cons.mp h with e | e
    · subst e; exact valD_pos rfl
    · have : ¬ k.1 = p.1 := fun z => hn'.1 (by show k.1 ∈ _; rw [z]; exact List.mem_map.mpr ⟨p, e, rfl⟩)
      rw [valD_neg this]
      exact ih hn'.2 e
theorem alk_dic {n : Nat} {ks : List (Key × PyData)} (hn : (ks.map (·.1)).Nodup) (h : ∀ p ∈ ks, SeqAt.shaped p.2 = true) : Alk (n + 2) (dicD ks) (dicD ks) := .inr (.inr (.inr ⟨ks, ks, rfl, rfl, rfl, fun p hp => ⟨p.2, valD_self hn hp, alk_refl (h p hp)⟩⟩))
end Dv
namespace Dv
open PySem L2 PyProof.Rows
section
variable {F : Fr} {B : List Addr} {M M' : Ms} {ρ ρ' : List Sl} {pos p apos tp : Pos} {e a b c v tg : Expr} {P : Sl → Ms → Prop} {W : Addr → Ms → Prop}
/-- an item of a list that a call gave -/
theorem ye_ixF (ha : YE F M ρ a (fun x M1 => ∃ q ds i d, x = .rf q ∧ (q, OO.l ds) ∈ M1 ∧ DE (F.ms M1) ρ b (.ok (.int i)) ∧ atI ds i = some d ∧ P (.da d) M1) W) (hs : PlainIx b := by intro _ _; rfl) : YE F M ρ (.Subscript a b pos) P W := by
  obtain ⟨t, pe, i1⟩ := ha
  refine ⟨_, pe_ix ix_list pe pe_uE hs, fun σ H Hd Q u a0 k1 k2 => i1 σ H Hd _ u a0 (fun v H1 Hd1 x M1 z x1 s1 => ?_) k2⟩
  obtain ⟨q, ds, i, d, rfl, hm, hd, hat, hP⟩ := z
  have s1 : some v = some (V.ref q) := s1
  cases s1
  refine ⟨_, hd.pe, tE_ok (at_ms x1 (a0.e.mono x1.g.dd)) fun y H2 Hd2 g2 d2 => ?_⟩
  cases d2
  have x2 := x1.trans (.grw x1.m x1.u g2)
  obtain ⟨⟨vs, e1, da⟩, _⟩ := x2.m _ hm
  obtain ⟨w, ew, dv⟩ := atI_dt da hat
  exact ⟨q, vs, i, w, rfl, rfl, .inl (.inl e1), ew, k1 w H2 Hd2 _ M1 hP x2 ⟨_, rfl, dv⟩⟩
end
/-- one that isn't a letter -/
theorem row_bad {z : Str} {c : Nat} (hc : c ∈ z.cps.toList) (hb : c ∉ lettersS.cps.toList) : rowB z = false := by
  unfold rowB
  have : (signs z).any badSign = true := List.any_eq_true.mpr ⟨.str ⟨#[c]⟩, List.mem_map.mpr ⟨c, hc, rfl⟩, by
    show (!decide _) = true
    rw [Bool.not_eq_true', decide_eq_false_iff_not]
    exact hb⟩
  rw [this]
  simp
theorem sign_bad (i : Int) : ∃ c, (signF i).cps.toList = [c] ∧ c ∉ lettersS.cps.toList := by
  refine ⟨_, rfl, ?_⟩
  have h : ∀ c ∈ signsS.cps.toList, c ∉ lettersS.cps.toList := by decide +kernel
  have hl := signs_len
  have h1 := Int.emod_nonneg i (Int.ne_of_gt signs_pos)
  have h2 := Int.emod_lt_of_pos i signs_pos
  have hi : (i % (signsS.length : Int)).toNat < signsS.cps.toList.length := by rw [hl]; omega
  rw [List.getD_eq_getElem?_getD, List.getElem?_eq_getElem hi]
  exact h _ (List.getElem_mem hi)
theorem put_bad (a b : Str) (i : Int) : rowB (a ++ signF i ++ b) = false := by
  obtain ⟨c, e, hb⟩ := sign_bad i
  refine row_bad (c := c) ?_ hb
  show c ∈ (a.cps ++ (signF i).cps ++ b.cps).toList
  rw [Array.toList_append, Array.toList_append, e]
  simp
theorem hear_written (s : Hs) (x : Wd) : (hearF s x).1.written = s.written ∨ ∃ y, (hearF s x).1.written = s.written ++ [(x.m, y)] := by
  rw [hearF_eq]
  split
  · exact .inl rfl
  · have e1 := (name_same (writeF (heard1 s x) x.m x.r).1 s.known x).2.2.2.2.2.1
    have e2 := (heard1_same s x).2.2.2.1
    rcases write_cases (heard1 s x) x.m x.r with e | ⟨_, _, e⟩
    · refine .inl ?_
      show (nameF _ _ _).1.written = _
      rw [e1, e, e2]
    · refine .inr ⟨(x.r, sortW (marksF (heard1 s x).known x.m x.r)), ?_⟩
      show (nameF _ _ _).1.written = _
      rw [e1, e]
      show _ ++ _ = _
      rw [e2]
theorem led_nodup {s : Hs} {B : Nat} (h : s.Ok B) : ((ledF s).map (·.1)).Nodup := (led_keys s).nodup_iff.mpr h.kw
theorem led_rows {s : Hs} {B : Nat} (h : s.Ok B) : ∀ e ∈ ledF s, leafOk (.str e.2) := fun e he => by
  have := (sortK_perm (s.written.map fun e => (e.1, e.2.1))).mem_iff.mp he
  obtain ⟨z, hz, rfl⟩ := List.mem_map.mp this
  exact (h.wo z hz).1
theorem led_alk {s : Hs} {B n : Nat} (h : s.Ok B) : Alk (n + 2) (dicD (kvK fMk (ledF s))) (dicD (kvK fMk (ledF s))) := by
  refine alk_dic ?_ fun p hp => ?_
  · rw [kvK_keys]
    exact List.pairwise_map.mpr ((led_nodup h).imp fun hne z => hne (Sum.inl.inj z))
  · obtain ⟨e, he, rfl⟩ := List.mem_map.mp hp
    exact shp (n := 8) (dok_str (led_rows h e he).2) (by decide)
theorem names_dok {s : Hs} {n : Nat} (h : ∀ e ∈ s.named, e.2.1.ok ∧ e.2.2.ok) : DOk (n + 3) (.list (namesD s)) := dok_list (doka_of fun d hd => by
  obtain ⟨e, he, rfl⟩ := List.mem_map.mp hd
  exact dok_tup (doka_cons dok_int (doka_cons (wd_dok (h e he).1) (doka_cons (wd_dok (h e he).2) doka_nil))))
theorem state_alk {s : Hs} {B : Nat} (h : s.Ok B) : Paired (Alk 2) [dicD (kvK fMk (ledF s)), .list (namesD s)] [dicD (kvK fMk (ledF s)), .list (namesD s)] := .cons (led_alk h) (.cons (alk_refl (shp (n := 8) (names_dok h.no) (by decide))) .nil)
theorem cut_lenI (ds : List PyData) (l u : Int) (h0 : 0 ≤ l) (h1 : l ≤ u) : ((cutD ds (some l) (some u)).length : Int) ≤ u - l := by
  unfold Dv.cutD
  rw [List.length_take, List.length_drop]
  have a1 : HT.sIx ds.length ds.length (some u) ≤ u.toNat := by
    unfold HT.sIx
    simp only
    split <;> omega
  have a2 : HT.sIx ds.length 0 (some l) = min l.toNat ds.length := by
    unfold HT.sIx
    simp only
    split <;> omega
  omega
end Dv
section Law
open PySem L2 PyProof.Rows Dv
/-! ### the walk over data: rows of steps -/
local macro_rules | `(tactic| walk_at "dv om") => `(tactic| first | assumption | omega)
local macro_rules | `(tactic| walk_at "dv bool") => `(tactic| first | rfl | assumption | exact decide_eq_false (by walk_at "dv om") | exact decide_eq_true (by walk_at "dv om") | exact nd_F rfl | exact nb_F (by assumption) | exact nb_T (by assumption) | exact nd_F (by walk_at "dv om") | exact nd_T (by walk_at "dv om") | decide | (simp [*]; done))
local macro_rules | `(tactic| walk_at "dv opx") => `(tactic| first | exact ⟨_, op_add⟩ | exact ⟨_, op_sub⟩ | exact ⟨_, op_mul⟩ | exact ⟨_, op_fdiv⟩ | exact ⟨_, op_mod⟩)
local macro_rules | `(tactic| walk_at "dv mul") => `(tactic| first | exact .inl ⟨by decide, by decide⟩ | exact .inr ⟨by decide, by decide⟩ | exact .inl ⟨by omega, by omega⟩ | exact .inr ⟨by omega, by omega⟩)
local macro_rules | `(tactic| walk_at "dv div") => `(tactic| first | exact ⟨by decide, by decide⟩ | exact ⟨by omega, by omega⟩)
local macro_rules | `(tactic| walk_at "dv mod") => `(tactic| first | decide | omega)
local macro_rules | `(tactic| walk_at "dv len") => `(tactic| first | exact Nat.le_of_ble_eq_true rfl | decide +kernel | (simp; done) | assumption)
local macro_rules | `(tactic| walk_at "dv dok") => `(tactic| first
  | exact dok_int | exact dok_bl | exact dok_non | (refine' dok_str ?h; (case h => first | assumption | rfl | decide +kernel)) | assumption
  | (refine' dok_list ?h; (case h => walk_at "dv doka")) | (refine' dok_tup ?h; (case h => walk_at "dv doka")))
local macro_rules | `(tactic| walk_at "dv doka") => `(tactic| first
  | exact doka_nil | (refine' doka_cons ?h1 ?h2; (case h1 => walk_at "dv dok"); (case h2 => walk_at "dv doka")) | exact doka_signs (by assumption) | assumption
  | (refine' doka_filter ?h; (case h => walk_at "dv doka")))
local macro_rules | `(tactic| walk_at "dv sh") => `(tactic| first | with_reducible exact shaped_int _ | with_reducible exact shaped_ints _ | assumption | (refine' shp (n := 8) ?h ?h2; (case h => walk_at "dv dok"); (case h2 => decide)) | decide +kernel)
local macro_rules | `(tactic| walk_at "dv bd") => `(tactic| first
  | with_reducible exact bd_addI | with_reducible exact bd_subI
  | ((with_reducible refine' bd_mulI ?hc); (case hc => walk_at "dv mul")) | ((with_reducible refine' bd_divI ?hc); (case hc => walk_at "dv div"))
  | ((with_reducible refine' bd_modI ?hc); (case hc => walk_at "dv mod")) | ((with_reducible refine' bd_powI ?hc); (case hc => exact ⟨by decide, by decide, by decide⟩))
  | with_reducible exact bd_ltI | with_reducible exact bd_leI | with_reducible exact bd_gtI | with_reducible exact bd_geI | with_reducible exact bd_eqI | with_reducible exact bd_neI
  | with_reducible exact bd_eqT | with_reducible exact bd_neT | with_reducible exact bd_eqB | with_reducible exact bd_neB | with_reducible exact bd_isB | with_reducible exact bd_isnB | with_reducible exact bd_isN | with_reducible exact bd_notN
  | with_reducible exact bd_inT | with_reducible exact bd_ninT | with_reducible exact bd_inR (Fr.hu _) | with_reducible exact bd_inI (Fr.hu _) | with_reducible exact bd_ninI (Fr.hu _)
  | ((with_reducible refine' bd_addL ?hc); (case hc => walk_at "dv len")) | ((with_reducible refine' bd_addT ?hc); (case hc => walk_at "dv len")) | ((with_reducible refine' bd_addU ?hc); (case hc => walk_at "dv len"))
  | ((with_reducible refine' bd_eqD (Fr.hu _) ?hc ?hd); (case hc => walk_at "dv sh"); (case hd => walk_at "dv sh")) | ((with_reducible refine' bd_neD (Fr.hu _) ?hc ?hd); (case hc => walk_at "dv sh"); (case hd => walk_at "dv sh"))
  | ((with_reducible refine' bd_inD (Fr.hu _) ?hc ?hd); (case hc => walk_at "dv sh"); (case hd => walk_at "dv sh")) | ((with_reducible refine' bd_ninD (Fr.hu _) ?hc ?hd); (case hc => walk_at "dv sh"); (case hd => walk_at "dv sh")))
local macro_rules | `(tactic| walk_at "dv vis") => `(tactic| first | exact .inl rfl | exact .inr (.inl rfl) | exact .inr (.inr rfl))
local macro_rules | `(tactic| walk_at "dv loc") => `(tactic| first | exact .inl rfl | exact .inr rfl)
local macro_rules | `(tactic| walk_at "dv room") => `(tactic| exact Room.mono (by assumption) (by decide))
local macro_rules | `(tactic| walk_at "dv fn") => `(tactic| assumption)
local macro_rules | `(tactic| walk_at "dv g") => `(tactic| first | exact gC_ok (by omega) (by omega) | exact gC_er (by assumption) | rfl | exact ⟨rfl, by assumption⟩)
local macro_rules | `(tactic| walk_at "dv ix") => `(tactic| first
  | ((with_reducible refine' ixOk_L ?h); (case h => first | rfl | assumption)) | ((with_reducible refine' ixOk_U ?h); (case h => first | rfl | assumption)))
local macro_rules | `(tactic| walk_at "dv cd") => `(tactic| first | with_reducible exact cd_lenL | with_reducible exact cd_lenU | ((with_reducible refine' cd_lenS ?hc); (case hc => walk_at "dv len")) | with_reducible exact cd_abs | with_reducible exact cd_intB | with_reducible exact cd_listL | with_reducible exact cd_listU | with_reducible exact cd_tupleL)
local macro_rules | `(tactic| walk_at "dv cal") => `(tactic| first
  | (refine' de_lenC ?h1 ?h2; (case h1 => walk_at "dv da"); (case h2 => walk_at "dv cd"))
  | (refine' de_absC ?h1 ?h2; (case h1 => walk_at "dv da"); (case h2 => walk_at "dv cd"))
  | (refine' de_minC ?h1 ?h2; (case h1 => walk_at "dv da"); (case h2 => walk_at "dv cd"))
  | (refine' de_maxC ?h1 ?h2; (case h1 => walk_at "dv da"); (case h2 => walk_at "dv cd"))
  | (refine' de_listC ?h1 ?h2; (case h1 => walk_at "dv da"); (case h2 => walk_at "dv cd"))
  | (refine' de_listRg1 rfl ?h1 ?h2; (case h1 => walk_at "dv de"); (case h2 => walk_at "dv rg"))
  | (refine' de_listRg2 rfl ?h1 ?h2 ?h3; (case h1 => walk_at "dv de"); (case h2 => walk_at "dv de"); (case h3 => walk_at "dv rg"))
  | (refine' de_tupleC ?h1 ?h2; (case h1 => walk_at "dv da"); (case h2 => walk_at "dv cd"))
  | (refine' de_intC ?h1 ?h2; (case h1 => walk_at "dv da"); (case h2 => walk_at "dv cd"))
  | (refine' de_strC ?h1 ?h2; (case h1 => walk_at "dv da"); (case h2 => walk_at "dv cd")))
local macro_rules | `(tactic| walk_at "dv rg") => `(tactic| exact ⟨by omega, by omega, by omega, by omega, by omega⟩)
local macro_rules | `(tactic| walk_at "dv isi") => `(tactic| first
  | (refine' de_isiI ?h1; (case h1 => walk_at "dv de")) | (refine' de_isiB ?h1; (case h1 => walk_at "dv de")) | (refine' de_isiS ?h1; (case h1 => walk_at "dv de"))
  | (refine' de_isiU ?h1; (case h1 => walk_at "dv de")) | (refine' de_isiL ?h1; (case h1 => walk_at "dv de")) | (refine' de_isiD ?h1; (case h1 => walk_at "dv de")))
local macro_rules | `(tactic| walk_at "dv own") => `(tactic| fail "no own step")
local macro_rules | `(tactic| walk_at "dv de") => `(tactic| first
  | walk_at "dv own"
  | exact de_dnew | with_reducible exact de_int | with_reducible exact de_str | with_reducible exact de_bl | with_reducible exact de_non
  | exact de_nm (by rfl) (by rfl) (by walk_at "dv vis")
  | exact de_globI (by rfl) (by assumption) | exact de_globS (by rfl) (by assumption)
  | (refine' de_bin ?h1 ?h2 ?h3; (case h1 => walk_at "dv de"); (case h2 => walk_at "dv de"); (case h3 => walk_at "dv bd"))
  | (refine' de_cmp ?h1 ?h2 ?h3; (case h1 => walk_at "dv de"); (case h2 => walk_at "dv de"); (case h3 => walk_at "dv bd"))
  | (refine' de_un ?h1 ?h3; (case h1 => walk_at "dv de"); (case h3 => with_reducible exact ud_neg))
  | (refine' de_not ?h1; (case h1 => walk_at "dv de"))
  | (refine' de_chain ?h1 ?h2 ?h3 ?h4 ?h5; (case h1 => walk_at "dv de"); (case h2 => walk_at "dv de"); (case h3 => walk_at "dv de"); (case h4 => walk_at "dv bd"); (case h5 => walk_at "dv bd"))
  | (refine' de_one ?h1; (case h1 => walk_at "dv de"))
  | (refine' de_andX ?h1 ?h2; (case h1 => walk_at "dv de"); (case h2 => walk_at "dv andV"))
  | (refine' de_orX ?h1 ?h2; (case h1 => walk_at "dv de"); (case h2 => walk_at "dv orV"))
  | (refine' de_ifX ?h1 ?h2; (case h1 => walk_at "dv dt"); (case h2 => walk_at "dv ifV"))
  | (refine' de_sl ?h1 ?h2 ?h3 ?h4; (case h1 => walk_at "dv de"); (case h2 => walk_at "dv do"); (case h3 => walk_at "dv do"); (case h4 => first | trivial | walk_at "dv len"))
  | (refine' de_ix ?h1 ?h2 ?h3; (case h1 => walk_at "dv de"); (case h2 => walk_at "dv de"); (case h3 => walk_at "dv ix"))
  | (refine' de_list ?h1 ?h2; (case h1 => walk_at "dv da"); (case h2 => exact Nat.le_of_ble_eq_true rfl))
  | (refine' de_tup ?h1 ?h2; (case h1 => walk_at "dv da"); (case h2 => exact Nat.le_of_ble_eq_true rfl))
  | walk_at "dv isi"
  | walk_at "dv cal"
  | (refine' de_binE1 (by walk_at "dv opx") ?h1; (case h1 => walk_at "dv de"))
  | (refine' de_binE2 (by walk_at "dv opx") ?h1 ?h2; (case h1 => walk_at "dv de"); (case h2 => walk_at "dv de"))
  | (refine' de_call (by walk_at "dv fn") (by walk_at "dv room") ?h1 ?h2; (case h1 => walk_at "dv da"); (case h2 => walk_at "dv g")))
local macro_rules | `(tactic| walk_at "dv do") => `(tactic| first | exact do_none | (refine' do_some ?h1; (case h1 => walk_at "dv de")))
local macro_rules | `(tactic| walk_at "dv da") => `(tactic| first | exact da_nil | (refine' da_cons ?h1 ?h2; (case h1 => walk_at "dv de"); (case h2 => walk_at "dv da")))
local macro_rules | `(tactic| walk_at "dv andV") => `(tactic| first
  | exact andV_F (by walk_at "dv bool") | (refine' andV_T (by walk_at "dv bool") ?h1; (case h1 => walk_at "dv de")) | (refine' andV_G ?h1; (case h1 => intro hb; walk_at "dv de")))
local macro_rules | `(tactic| walk_at "dv orV") => `(tactic| first
  | exact orV_T (by walk_at "dv bool") | (refine' orV_F (by walk_at "dv bool") ?h1; (case h1 => walk_at "dv de")) | (refine' orV_G ?h1; (case h1 => intro hb; walk_at "dv de")))
local macro_rules | `(tactic| walk_at "dv andW") => `(tactic| first
  | exact andW_F (by walk_at "dv bool") | (refine' andW_T (by walk_at "dv bool") ?h1; (case h1 => walk_at "dv dw")) | (refine' andW_G ?h1; (case h1 => intro hb; walk_at "dv dw")))
local macro_rules | `(tactic| walk_at "dv orW") => `(tactic| first
  | exact orW_T (by walk_at "dv bool") | (refine' orW_F (by walk_at "dv bool") ?h1; (case h1 => walk_at "dv dw")) | (refine' orW_G ?h1; (case h1 => intro hb; walk_at "dv dw")))
local macro_rules | `(tactic| walk_at "dv ifV") => `(tactic| first
  | (refine' ifV_T (by walk_at "dv bool") ?h1; (case h1 => walk_at "dv de")) | (refine' ifV_F (by walk_at "dv bool") ?h1; (case h1 => walk_at "dv de"))
  | (refine' ifV_G ?h1 ?h2; (case h1 => intro hb; walk_at "dv de"); (case h2 => intro hb; walk_at "dv de")))
local macro_rules | `(tactic| walk_at "dv dw") => `(tactic| first
  | (refine' dw_and1 ?h1; (case h1 => walk_at "dv dt")) | (refine' dw_or1 ?h1; (case h1 => walk_at "dv dt"))
  | (refine' dw_andX ?h1 ?h2; (case h1 => walk_at "dv dt"); (case h2 => walk_at "dv andW"))
  | (refine' dw_orX ?h1 ?h2; (case h1 => walk_at "dv dt"); (case h2 => walk_at "dv orW")))
local macro_rules | `(tactic| walk_at "dv dt") => `(tactic| first
  | (refine' dt_not ?h1; (case h1 => walk_at "dv dt"))
  | (refine' dt_cmp ?h1 ?h2 ?h3; (case h1 => walk_at "dv de"); (case h2 => walk_at "dv de"); (case h3 => walk_at "dv bd"))
  | (refine' dt_chain ?h1 ?h2 ?h3 ?h4 ?h5; (case h1 => walk_at "dv de"); (case h2 => walk_at "dv de"); (case h3 => walk_at "dv de"); (case h4 => walk_at "dv bd"); (case h5 => walk_at "dv bd"))
  | (refine' dt_w ?h1; (case h1 => walk_at "dv dw"))
  | (refine' dt_val ?h1; (case h1 => walk_at "dv de")))
local macro_rules | `(tactic| walk_at "dv aft") => `(tactic| first | exact aft_ret | exact aft_er | exact aft_bk | exact aft_ct | (refine' aft_nx ?h1; (case h1 => walk_at "dv db")))
local macro_rules | `(tactic| walk_at "dv ifb") => `(tactic| first
  | (refine' ifB_T (by walk_at "dv bool") ?h1 ?h2; (case h1 => walk_at "dv db"); (case h2 => walk_at "dv aft"))
  | (refine' ifB_F (by walk_at "dv bool") ?h1 ?h2; (case h1 => walk_at "dv db"); (case h2 => walk_at "dv aft"))
  | (refine' ifB_G (fun hb => And.intro ?h1 ?h2) (fun hb => And.intro ?h3 ?h4); (case h1 => walk_at "dv db"); (case h2 => walk_at "dv aft"); (case h3 => walk_at "dv db"); (case h4 => walk_at "dv aft")))
local macro_rules | `(tactic| walk_at "dv ownS") => `(tactic| fail "no own step")
local macro_rules | `(tactic| walk_at "dv db") => `(tactic| first
  | walk_at "dv ownS"
  | exact db_nil
  | (refine' db_seq (ds_ret ?h1) aft_ret; (case h1 => walk_at "dv de"))
  | (refine' db_ifX ?h1 ?h2; (case h1 => walk_at "dv dt"); (case h2 => walk_at "dv ifb"))
  | (refine' db_seq (ds_asgN ?h1 (by rfl) (by walk_at "dv loc")) (aft_nx ?h2); (case h1 => walk_at "dv de"); (case h2 => walk_at "dv db"))
  | exact db_seq (ds_raiseC (by assumption)) aft_er
  | (refine' db_seq ds_pass (aft_nx ?h2); (case h2 => walk_at "dv db"))
  | exact db_seq ds_cont aft_ct
  | (refine' db_seq ds_doc (aft_nx ?h2); (case h2 => walk_at "dv db"))
  | (refine' db_seq (ds_expr ?h1) (aft_nx ?h2); (case h1 => walk_at "dv de"); (case h2 => walk_at "dv db"))
  | (refine' db_seq (ds_exprE ?h1) aft_er; (case h1 => walk_at "dv de"))
  | (refine' db_seq (ds_retE ?h1) aft_er; (case h1 => walk_at "dv de")))
local macro_rules | `(tactic| walk_at "dv as") => `(tactic| (refine' db_then (ds_asgN ?h1 (by rfl) (by walk_at "dv loc")) ?h2; (case h1 => walk_at "dv de")))
local macro_rules | `(tactic| walk_at "dv sk") => `(tactic| (refine' db_skip ?h1 ?h2 ?h3; (case h1 => walk_at "dv dt"); (case h2 => walk_at "dv bool")))
local macro_rules | `(tactic| walk_at "dx as") => `(tactic| (refine' dx_lift (ds_asgN ?h1 (by rfl) (by walk_at "dv loc")) ?h2; (case h1 => walk_at "dv de")))
local macro_rules | `(tactic| walk_at "dx sk") => `(tactic| (refine' dx_skip ?h1 ?h2 ?h3; (case h1 => walk_at "dv dt"); (case h2 => walk_at "dv bool")))
local macro_rules | `(tactic| walk_at "dv pick") => `(tactic| first | exact Pick.here | (refine' Pick.there ?h; (case h => walk_at "dv pick")))
local macro_rules | `(tactic| walk_at "dv perm") => `(tactic| first | exact List.Perm.refl _ | (refine' perm_pick ?h1 ?h2; (case h1 => walk_at "dv pick"); (case h2 => walk_at "dv perm")))
local macro_rules | `(tactic| walk_at "dv mem") => `(tactic| first | exact List.mem_cons_self | (refine' List.mem_cons_of_mem _ ?h; (case h => walk_at "dv mem")))
local macro_rules | `(tactic| walk_at "dv put") => `(tactic| first | exact PutO.here | (refine' PutO.there ?h; (case h => walk_at "dv put")))
local macro_rules | `(tactic| walk_at "dv cls") => `(tactic| assumption)
local macro_rules | `(tactic| walk_at "dv se") => `(tactic| first
  | exact se_nm (by rfl) (by rfl) (by walk_at "dv vis")
  | (refine' se_fld ?h1 ?h2 ?h3 ?h4 ?h5; (case h1 => walk_at "dv se"); (case h2 => walk_at "dv mem"); (case h3 => walk_at "dv cls"); (case h4 => walk_at "dv cls"); (case h5 => rfl))
  | (refine' se_de ?h1; (case h1 => walk_at "dv de")))
local macro_rules | `(tactic| walk_at "dy as") => `(tactic| (refine' dy_lift (ds_asgN ?h1 (by rfl) (by walk_at "dv loc")) ?h2; (case h1 => walk_at "dv de")))
local macro_rules | `(tactic| walk_at "dy sk") => `(tactic| (refine' dy_skip ?h1 ?h2 ?h3; (case h1 => walk_at "dv dt"); (case h2 => walk_at "dv bool")))
namespace K7
open PySem L2 PyProof.Rows Dv
def top (i : Nat) : Stmt := PySem.Challenge.pw_latehouse_k07_houses_refused.main.body.getD i (.Pass ⟨0, 0, 0, 0⟩)
def cdef (i j : Nat) : Stmt := match top i with
  | .ClassDef _ _ _ body _ _ _ _ _ _ _ => body.getD j (.Pass ⟨0, 0, 0, 0⟩)
  | _ => .Pass ⟨0, 0, 0, 0⟩
abbrev s_among : Stmt := top 12
abbrev s_need : Stmt := top 13
abbrev s_most : Stmt := top 14
abbrev s_enough : Stmt := top 15
abbrev s_isrow : Stmt := top 19
abbrev s_unlike : Stmt := top 20
abbrev s_lat : Stmt := top 24
abbrev s_sign : Stmt := top 25
abbrev s_rowf : Stmt := top 26
abbrev s_kind : Stmt := top 27
abbrev s_made : Stmt := top 28
abbrev s_asked : Stmt := top 29
abbrev s_law : Stmt := top 30
abbrev s_hinit : Stmt := cdef 22 0
abbrev s_hcall : Stmt := cdef 22 1
abbrev s_hhear : Stmt := cdef 22 2
abbrev s_hmarks : Stmt := cdef 22 3
abbrev s_hwrite : Stmt := cdef 22 4
abbrev s_hname : Stmt := cdef 22 5
abbrev s_hledger : Stmt := cdef 22 6
abbrev s_hback : Stmt := cdef 22 7
abbrev s_hcaught : Stmt := cdef 22 8
section
variable {P : Program} {w : World} {K : PySem.W.Frag} {mg : Str → Option Value} {base : Heap}
section
local macro_rules | `(tactic| walk_at "dv g") => `(tactic| first | exact g_among_i | exact g_row_i (by assumption) | exact gC_ok (by omega) (by omega) | exact gC_er (by assumption))
theorem sc_among : FnScope ["thing", "least", "most"] ["thing", "least", "most"] (defScope s_among) := ⟨rfl, rfl, rfl, by decide +kernel, rfl, by decide +kernel, by decide +kernel⟩
theorem ok_among {f : Addr} {fd : FuncData} (F : Fun K "is_among" "is_among" s_among f fd) (bl : Bl mg) : FnOk P w K mg base (L2N.CX P w) 1 f fd ["thing", "least", "most"] (spD K g_among) := by
  refine fnD F sc_among bl (fun ds r ⟨_, _, _, e, _⟩ => by rw [e]; rfl) fun cdv A outer s H E hu hr ds r h => ?_
  obtain ⟨x, lo, hi, rfl, rfl⟩ := h
  cases x
  all_goals
    refine' ⟨_, ?bdy, ?fit⟩
    (case bdy => walk_at "dv db")
    (case fit => exact fits_ret rfl)
theorem sc_need : FnScope ["count"] ["count"] (defScope s_need) := ⟨rfl, rfl, rfl, by decide +kernel, rfl, by decide +kernel, by decide +kernel⟩
theorem ok_need {f C : Addr} {fd : FuncData} (F : Fun K "need_count" "need_count" s_need f fd) (bl : Bl mg) {t : Tok} (mh : mg "MOST_HOUSES" = some (.int 12 t)) (fa : Pfn P w K mg base "is_among" 1 g_among) (eC : Ecl K mg "BadCount" C) :
    FnOk P w K mg base (L2N.CX P w) 2 f fd ["count"] (spD K (gC C fun _ => .none)) := by
  refine fnD F sc_need bl gC_len fun cdv A outer s H E hu hr ds r h => ?_
  rcases h with ⟨n, rfl, h1, h2, rfl⟩ | ⟨x, rfl, h1, rfl⟩
  · have q := among_in h1 h2
    refine' ⟨_, ?bdy, ?fit⟩
    (case bdy => walk_at "dv db")
    (case fit => exact fits_nx)
  · refine' ⟨_, ?bdy, ?fit⟩
    (case bdy => walk_at "dv db")
    (case fit => exact fits_er)
theorem sc_most : FnScope ["count"] ["count"] (defScope s_most) := ⟨rfl, rfl, rfl, by decide +kernel, rfl, by decide +kernel, by decide +kernel⟩
theorem ok_most {f C : Addr} {fd : FuncData} (F : Fun K "most_liars" "most_liars" s_most f fd) (bl : Bl mg) (fa : Pfn P w K mg base "need_count" 2 (gC C fun _ => .none)) :
    FnOk P w K mg base (L2N.CX P w) 3 f fd ["count"] (spD K (gC C fun n => .int (mostL n))) := by
  refine fnD F sc_most bl gC_len fun cdv A outer s H E hu hr ds r h => ?_
  rcases h with ⟨n, rfl, h1, h2, rfl⟩ | ⟨x, rfl, h1, rfl⟩
  · refine' ⟨_, ?bdy, ?fit⟩
    (case bdy => walk_at "dv db")
    (case fit => exact fits_ret rfl)
  · refine' ⟨_, ?bdy, ?fit⟩
    (case bdy => walk_at "dv db")
    (case fit => exact fits_er)
theorem sc_enough : FnScope ["count"] ["count"] (defScope s_enough) := ⟨rfl, rfl, rfl, by decide +kernel, rfl, by decide +kernel, by decide +kernel⟩
theorem ok_enough {f C : Addr} {fd : FuncData} (F : Fun K "enough" "enough" s_enough f fd) (bl : Bl mg) (fa : Pfn P w K mg base "most_liars" 3 (gC C fun n => .int (mostL n))) :
    FnOk P w K mg base (L2N.CX P w) 4 f fd ["count"] (spD K (gC C fun n => .int (enoughL n))) := by
  refine fnD F sc_enough bl gC_len fun cdv A outer s H E hu hr ds r h => ?_
  rcases h with ⟨n, rfl, h1, h2, rfl⟩ | ⟨x, rfl, h1, rfl⟩
  · refine' ⟨_, ?bdy, ?fit⟩
    (case bdy => walk_at "dv db")
    (case fit => exact fits_ret rfl)
  · refine' ⟨_, ?bdy, ?fit⟩
    (case bdy => walk_at "dv db")
    (case fit => exact fits_er)
theorem sc_isrow : FnScope ["thing", "sign"] ["thing"] (defScope s_isrow) := ⟨rfl, rfl, rfl, by decide +kernel, rfl, by decide +kernel, by decide +kernel⟩
theorem ok_isrow {f : Addr} {fd : FuncData} {t1 t2 : Tok} (F : Fun K "is_row" "is_row" s_isrow f fd) (bl : Bl mg) (mL : mg "LETTERS" = some (.str lettersS t1)) (mM : mg "MOST_LETTERS" = some (.int 8 t2)) : FnOk P w K mg base (L2N.CX P w) 1 f fd ["thing"] (spD K g_row) := by
  refine fnD F sc_isrow bl (fun ds r ⟨_, e, _⟩ => by rw [e]; rfl) fun cdv A outer s H E hu hr ds r h => ?_
  obtain ⟨x, rfl, hx, rfl⟩ := h
  cases x with
  | str z =>
    obtain ⟨hz, hk⟩ := hx
    have hz1 : z.length ≤ sizeLine := Nat.le_trans hz (Nat.le_of_ble_eq_true rfl)
    cases e : rowLen z with
    | false =>
      have e' : (decide ((1 : Int) ≤ (z.length : Int)) && decide ((z.length : Int) ≤ 8)) = false := e
      refine' ⟨_, ?bdy, ?fit⟩
      (case bdy => walk_at "dv db")
      (case fit => exact fits_ret (by show _ = PyData.bool (rowLen z && _); rw [e]; rfl))
    | true =>
      have e' : (decide ((1 : Int) ≤ (z.length : Int)) && decide ((z.length : Int) ≤ 8)) = true := e
      refine' ⟨_, ?bdy, ?fit⟩
      (case bdy =>
        refine' db_ifX ?a1 ?a2
        (case a1 => walk_at "dv dt")
        (case a2 =>
          refine' ifB_F (by walk_at "dv bool") ?b1 ?b2
          (case b1 => walk_at "dv db")
          (case b2 =>
            refine' aft_nx ?c1
            (case c1 =>
              refine' db_seq (ds_for (b := bName 1) (di_str ?d1) (pg_name (i := 1) (Fr.nd _) rfl (by walk_at "dv loc")) tg_name (lp_search badSign (.bool false) (fun it => (rho [.str z] ["thing", "sign"]).set 1 (.da it)) (fun _ _ => rfl) fun it hit => ?d2)) (aft_if (fun _ => aft_ret) (fun _ => aft_nx ?d3))
              (case d1 => walk_at "dv de")
              (case d2 =>
                obtain ⟨c, hc, rfl⟩ := List.mem_map.mp hit
                refine' ⟨(rho [.str z] ["thing", "sign"]).set 1 (.da (.str ⟨#[c]⟩)), ?e1, ?e2⟩
                (case e2 =>
                  refine' db_ifX ?f1 (ifB_G (fun hb => And.intro ?f2 ?f3) (fun hb => And.intro ?f4 ?f5))
                  (case f1 =>
                    refine' dt_cmp ?g1 ?g2 bd_ninT
                    (case g1 => walk_at "dv de")
                    (case g2 => walk_at "dv de"))
                  (case f2 => walk_at "dv db")
                  (case f3 => exact aft_ret)
                  (case f4 => walk_at "dv db")
                  (case f5 => exact aft_nx (ρ' := (rho [.str z] ["thing", "sign"]).set 1 (.da (.str ⟨#[c]⟩))) db_nil))
                (case e1 => exact Paired.cons (Or.inr rfl) (Paired.cons (Or.inl rfl) Paired.nil)))
              (case d3 => walk_at "dv db")))))
      (case fit =>
        have er : isRow (.str z) = !(Dv.signs z).any badSign := by
          show (rowLen z && _) = _
          rw [e]; rfl
        rw [er]
        refine fits_if (fun h => ?_) (fun h => ?_)
        · rw [h]; exact fits_ret rfl
        · rw [h]; exact fits_ret rfl)
  | _ =>
    refine' ⟨_, ?bdy, ?fit⟩
    (case bdy => walk_at "dv db")
    (case fit => exact fits_ret rfl)
end
theorem sc_unlike : FnScope ["one", "other"] ["one", "other"] (defScope s_unlike) := ⟨rfl, rfl, rfl, by decide +kernel, rfl, by decide +kernel, by decide +kernel⟩
theorem ok_unlike {f : Addr} {fd : FuncData} (F : Fun K "are_unlike" "are_unlike" s_unlike f fd) (bl : Bl mg) : FnOk P w K mg base (L2N.CX P w) 1 f fd ["one", "other"] (spD K g_unlike) := by
  refine fnD F sc_unlike bl (fun ds r ⟨_, _, _, _, _, _, _, _, e, _⟩ => by rw [e]; rfl) fun cdv A outer s H E hu hr ds res h => ?_
  obtain ⟨k, m, r, h, k', m', r', h', rfl, rfl⟩ := h
  refine' ⟨_, ?bdy, ?fit⟩
  (case bdy =>
    refine' db_seq (ds_ret ?a1) aft_ret
    (case a1 =>
      refine' de_andX ?b1 (andV_G fun _ => ?b2)
      (case b1 => walk_at "dv de")
      (case b2 =>
        refine' de_andX ?c1 (andV_G fun _ => ?c2)
        (case c1 => walk_at "dv de")
        (case c2 =>
          refine' de_andX ?d1 (andV_G fun _ => ?d2)
          (case d1 => walk_at "dv de")
          (case d2 => walk_at "dv de")))))
  (case fit => exact fits_ret rfl)
section
local macro_rules | `(tactic| walk_at "dv g") => `(tactic| first | assumption | exact g_among_i | exact g_row_i (by assumption) | exact g_unlike_w | exact gC_ok (by assumption) (by assumption) | exact gC_er (by assumption))
local macro_rules | `(tactic| walk_at "dv own") => `(tactic| first | ((refine' de_ix (da := wd _) ?h1 de_int ?h2); (case h1 => exact de_nm (by rfl) (by rfl) (by walk_at "dv vis")); (case h2 => exact ixOk_U rfl)) | ((refine' de_se ?h); (case h => (refine' se_fld ?h1 ?h2 ?h3 ?h4 ?h5; (case h1 => walk_at "dv se"); (case h2 => walk_at "dv mem"); (case h3 => walk_at "dv cls"); (case h4 => walk_at "dv cls"); (case h5 => rfl)))))
theorem sc_hinit : FnScope ["self", "count", "own"] ["self", "count", "own"] (defScope s_hinit) := ⟨rfl, rfl, rfl, by decide +kernel, rfl, by decide +kernel, by decide +kernel⟩
theorem ok_hinit {f C CB CH : Addr} {fd : FuncData} (F : Fun K "__init__" "House.__init__" s_hinit f fd) (bl : Bl mg) (hc : HouseC K C) (fe : Pfn P w K mg base "enough" 4 (gC CB fun n => .int (enoughL n))) (fa : Pfn P w K mg base "is_among" 1 g_among) (eH : Ecl K mg "BadHouse" CH) : FnOk P w K mg base (L2N.CX P w) 5 f fd ["self", "count", "own"] (spM K (g_hinit C CB CH)) := by
  obtain ⟨hcc, n1, n2, n3, n4, n5, n6, n7, n8⟩ := hc
  refine fnM F sc_hinit bl (fun xs M R W ⟨_, _, _, e, _⟩ => by rw [e]; rfl) fun cdv A outer s0 H E hu hr xs M R W h => ?_
  obtain ⟨p, x, y, rfl, rfl, h⟩ := h
  rcases h with ⟨n, own, rfl, rfl, h1, h2, h3, h4, hR⟩ | ⟨hb, hW⟩ | ⟨n, rfl, h1, h2, hb, hW⟩
  · have ham : isAmong (.int own) 0 (n - 1) = true := among_in h3 (by omega)
    have hga : g_among [.int own, .int 0, .int (n - 1)] (.ok (.bool true)) := by rw [← ham]; exact g_among_i
    refine' dy_fld (ye_de (d := .int (enoughL n)) ?b0 ⟨p, C, _, _, ?b1, ?b2, hcc, n1, ?b3, ?b4⟩)
    (case b0 => walk_at "dv de")
    (case b1 => walk_at "dv se")
    (case b2 => walk_at "dv put")
    (case b3 => exact Nat.le_of_ble_eq_true rfl)
    (case b4 =>
    refine' dy_skip (x := false) ?c0 rfl ?c1
    (case c0 =>
      refine' dt_not (x := true) (dt_val ?c2)
      (case c2 => walk_at "dv de"))
    (case c1 =>
    refine' dy_fld (ye_de (d := .int n) ?d0 ⟨p, C, _, _, ?d1, ?d2, hcc, n2, ?d3, ?d4⟩)
    (case d0 => walk_at "dv de")
    (case d1 => walk_at "dv se")
    (case d2 => walk_at "dv put")
    (case d3 => exact Nat.le_of_ble_eq_true rfl)
    (case d4 =>
    refine' dy_fld (ye_de (d := .int own) ?e0 ⟨p, C, _, _, ?e1, ?e2, hcc, n3, ?e3, ?e4⟩)
    (case e0 => walk_at "dv de")
    (case e1 => walk_at "dv se")
    (case e2 => walk_at "dv put")
    (case e3 => exact Nat.le_of_ble_eq_true rfl)
    (case e4 =>
    refine' dy_fld (ye_newL fun k => ⟨p, C, _, _, ?g1, ?g2, hcc, n4, ?g3, ?g4⟩)
    (case g1 => walk_at "dv se")
    (case g2 => walk_at "dv put")
    (case g3 => exact Nat.le_of_ble_eq_true rfl)
    (case g4 =>
    refine' dy_fld (ye_newD fun m => ⟨p, C, _, _, ?i1, ?i2, hcc, n5, ?i3, ?i4⟩)
    (case i1 => walk_at "dv se")
    (case i2 => walk_at "dv put")
    (case i3 => exact Nat.le_of_ble_eq_true rfl)
    (case i4 =>
    refine' dy_fld (ye_newD fun w0 => ⟨p, C, _, _, ?j1, ?j2, hcc, n6, ?j3, ?j4⟩)
    (case j1 => walk_at "dv se")
    (case j2 => walk_at "dv put")
    (case j3 => exact Nat.le_of_ble_eq_true rfl)
    (case j4 =>
    refine' dy_fld (ye_newD fun nm => ⟨p, C, _, _, ?k1, ?k2, hcc, n7, ?k3, ?k4⟩)
    (case k1 => walk_at "dv se")
    (case k2 => walk_at "dv put")
    (case k3 => exact Nat.le_of_ble_eq_true rfl)
    (case k4 =>
    refine' dy_fld (ye_de (d := .int 0) ?l0 ⟨p, C, _, _, ?l1, ?l2, hcc, n8, ?l3, ?l4⟩)
    (case l0 => walk_at "dv de")
    (case l1 => walk_at "dv se")
    (case l2 => walk_at "dv put")
    (case l3 => exact Nat.le_of_ble_eq_true rfl)
    (case l4 =>
      refine' DY.perm (M' := houseM ⟨C, p, k, m, w0, nm, p⟩ (hs0 n own)) ?o1 ?o2
      (case o1 => exact dy_nil (hR k m w0 nm p))
      (case o2 => walk_at "dv perm"))))))))))
  · refine DY.drop (dy_fld (ye_er (C := CB) ?b0e hW))
    (case b0e => walk_at "dv de")
  · have hga : g_among [y, .int 0, .int (n - 1)] (.ok (.bool false)) := by rw [← hb]; exact g_among_i
    refine' dy_fld (ye_de (d := .int (enoughL n)) ?b0f ⟨p, C, _, _, ?b1f, ?b2f, hcc, n1, ?b3f, ?b4f⟩)
    (case b0f => walk_at "dv de")
    (case b1f => walk_at "dv se")
    (case b2f => walk_at "dv put")
    (case b3f => exact Nat.le_of_ble_eq_true rfl)
    (case b4f =>
      refine' DY.drop (dy_ifT (x := true) ?c0f rfl ?c1f)
      (case c0f =>
        refine' dt_not (x := false) (dt_val ?c2f)
        (case c2f => walk_at "dv de"))
      (case c1f => exact dy_liftE (ds_raiseC (by assumption)) hW))
end
section
local macro_rules | `(tactic| walk_at "dv g") => `(tactic| first | assumption | exact g_among_i | exact g_row_i (by assumption) | exact g_unlike_w | exact gC_ok (by assumption) (by assumption) | exact gC_er (by assumption))
local macro_rules | `(tactic| walk_at "dv own") => `(tactic| first | ((refine' de_ix (da := wd _) ?h1 de_int ?h2); (case h1 => exact de_nm (by rfl) (by rfl) (by walk_at "dv vis")); (case h2 => exact ixOk_U rfl)) | ((refine' de_se ?h); (case h => (refine' se_fld ?h1 ?h2 ?h3 ?h4 ?h5; (case h1 => walk_at "dv se"); (case h2 => walk_at "dv mem"); (case h3 => walk_at "dv cls"); (case h4 => walk_at "dv cls"); (case h5 => rfl)))))
theorem sc_hmarks : FnScope ["self", "number", "row", "found", "word"] ["self", "number", "row"] (defScope s_hmarks) := ⟨rfl, rfl, rfl, by decide +kernel, rfl, by decide +kernel, by decide +kernel⟩
def lam0 : Expr := match (defBody s_hmarks).getD 1 (.Pass ⟨0, 0, 0, 0⟩) with
  | .Return (some (.Call _ _ [⟨_, e, _⟩] _)) _ => e
  | _ => .Constant .none 0 ⟨0, 0, 0, 0⟩
def lamB : Expr := match lam0 with
  | .Lambda _ b _ _ => b
  | _ => .Constant .none 0 ⟨0, 0, 0, 0⟩
def lamS : Scope := match lam0 with
  | .Lambda _ _ s _ => s
  | _ => defScope s_hmarks
theorem sc_lam : FnScope ["word"] ["word"] lamS := ⟨rfl, rfl, rfl, by decide +kernel, rfl, by decide +kernel, by decide +kernel⟩
theorem ok_hmarks {f c C PT : Addr} {kV doc pm ct : Value} {od an : Option Addr} {oc : Value} {osl : Array (Option Value)} (lk : K.lookup f = some ⟨oc, od, .func (PySem.W.fnOf "marks" "House.marks" (defArgs s_hmarks) (defBody s_hmarks) (defScope s_hmarks) .none kV doc pm an (.ref c) ct), osl⟩) (hcd : PySem.W.codeIn K (.ref c) "House.marks" = true) (bl : Bl mg) (hc : HouseC K C) (TB : LamX.TabB base mg c PT) :
    FnOk P w K mg base (L2N.CX P w) 4 f (PySem.W.fnOf "marks" "House.marks" (defArgs s_hmarks) (defBody s_hmarks) (defScope s_hmarks) .none kV doc pm an (.ref c) ct) ["self", "number", "row"] (spM K (g_marks C PT)) := by
  obtain ⟨hcc, n1, n2, n3, n4, n5, n6, n7, n8⟩ := hc
  refine fnMC (k := 3) lk hcd sc_hmarks bl (fun xs M R W ⟨_, _, _, _, e, _⟩ => by rw [e]; rfl) fun A outer s0 H E hu hr xs M R W h => ?_
  obtain ⟨a, s, num, row, rfl, rfl, rfl, rfl, ok, hl, hR⟩ := h
  refine' dy_lift (ds_setLcM (i := 3) (own := [("word", 4)]) (b := bName 4) (zs := (marksF s.known num row).map wd) (dim_list (q := a.k) (ds := s.known.map wd) ?a1 ?a2) (blkOk_by rfl) ?a3 tg_name (cp_words (isMark num row) fun x hx => ?a4) ?a5 rfl rfl rfl) ?a6
  (case a1 => walk_at "dv se")
  (case a2 => walk_at "dv mem")
  (case a3 => intro s H C cl fp; exact pg_name (Fr.nd _) rfl (by walk_at "dv loc"))
  (case a4 =>
    have hw := ok.wok x hx
    refine ⟨_, rfl, fun s1 H1 C1 cl fp => dts_one ?b1, fun w1 e1 s1 H1 C1 cl fp => ?b2⟩
    (case b1 =>
      rw [← mark_eqv]
      refine' dt_cmp (da := .tuple [.str x.k, .int x.m, .str x.r]) ?c1 ?c2 (bd_eqD (Fr.hu _) ?c3 ?c4)
      (case c1 =>
        rw [← mark_cut x]
        refine' de_sl ?d1 ?d2 ?d3 trivial
        (case d1 => exact de_nm (by rfl) (by rfl) (by walk_at "dv vis"))
        (case d2 => exact do_none)
        (case d3 =>
          refine' do_some ?d4
          (case d4 => exact de_int)))
      (case c2 => walk_at "dv de")
      (case c3 => exact shp (n := 8) (dok_tup (doka_cons (dok_str hw.1.2) (doka_cons dok_int (doka_cons (dok_str hw.2.2) doka_nil)))) (by decide))
      (case c4 => exact shp (n := 8) (dok_tup (doka_cons (dok_str (by decide +kernel)) (doka_cons dok_int (doka_cons (dok_str hl.2) doka_nil)))) (by decide)))
    (case b2 =>
      cases q : isMark num row x with
      | false => rw [q] at e1; cases e1
      | true =>
        rw [q, if_pos rfl] at e1
        cases e1
        exact de_nm (by rfl) (by rfl) (by walk_at "dv vis")))
  (case a5 =>
    rw [List.length_map]
    exact Nat.lt_of_le_of_lt ok.lk (Nat.le_of_ble_eq_true rfl))
  (case a6 =>
    have eL : ((marksF s.known num row).map fun x : Wd => (x.h, wd x)).map (·.2) = (marksF s.known num row).map wd := by rw [List.map_map]; rfl
    have eL' : ((sortW (marksF s.known num row)).map fun x : Wd => (x.h, wd x)).map (·.2) = (sortW (marksF s.known num row)).map wd := by rw [List.map_map]; rfl
    refine' dy_ret (ye_sortLam (c := c) (P := a.P) (j := 0) (L := (marksF s.known num row).map fun x : Wd => (x.h, wd x)) (L' := (sortW (marksF s.known num row)).map fun x : Wd => (x.h, wd x)) ?e1 ?e2 TB rfl sc_lam hr ?e3 ?e4 ?e5 ?e6 ?e7)
    (case e1 => rw [eL]; exact de_nm (by rfl) (by rfl) (by walk_at "dv vis"))
    (case e2 =>
      have : lamQ (frOf P w K mg base ["self", "number", "row", "found", "word"] "House.marks" (defScope s_hmarks) f (.ref c) A outer s0 H E hu bl sc_hmarks.nd).X = lamH := by rfl
      rw [this]
      walk_at "dv mem")
    (case e3 =>
      intro e he cd f1 A1 outer1 s1 H1 E1 hu1
      obtain ⟨x, _, rfl⟩ := List.mem_map.mp he
      refine' de_ix (da := wd x) ?g1 de_int ?g2
      (case g1 => exact de_nm (by rfl) (by rfl) (by walk_at "dv vis"))
      (case g2 => exact ixOk_U rfl))
    (case e4 => exact (sortW_perm _).map _)
    (case e5 => exact List.pairwise_map.mpr (marks_strict ok.nd))
    (case e6 => rw [eL']; exact hR)
    (case e7 => intro u pm1 cv1 ctv1; rfl))
end
section
local macro_rules | `(tactic| walk_at "dv g") => `(tactic| first | assumption | exact g_among_i | exact g_row_i (by assumption) | exact g_unlike_w | exact gC_ok (by assumption) (by assumption) | exact gC_er (by assumption))
local macro_rules | `(tactic| walk_at "dv own") => `(tactic| first | ((refine' de_ix (da := wd _) ?h1 de_int ?h2); (case h1 => exact de_nm (by rfl) (by rfl) (by walk_at "dv vis")); (case h2 => exact ixOk_U rfl)) | ((refine' de_se ?h); (case h => (refine' se_fld ?h1 ?h2 ?h3 ?h4 ?h5; (case h1 => walk_at "dv se"); (case h2 => walk_at "dv mem"); (case h3 => walk_at "dv cls"); (case h4 => walk_at "dv cls"); (case h5 => rfl)))))
theorem sc_hwrite : FnScope ["self", "number", "row", "marks"] ["self", "number", "row"] (defScope s_hwrite) := ⟨rfl, rfl, rfl, by decide +kernel, rfl, by decide +kernel, by decide +kernel⟩
theorem ok_hwrite {f C PT : Addr} {fd : FuncData} (F : Fun K "write" "House.write" s_hwrite f fd) (bl : Bl mg) (hc : HouseC K C) (fm : MtdM P w K mg base C "marks" 4 (g_marks C PT)) : FnOk P w K mg base (L2N.CX P w) 5 f fd ["self", "number", "row"] (spM K (g_write C PT)) := by
  obtain ⟨hcc, n1, n2, n3, n4, n5, n6, n7, n8⟩ := hc
  refine fnM F sc_hwrite bl (fun xs M R W ⟨_, _, _, _, e, _⟩ => by rw [e]; rfl) fun cdv A outer s0 H E hu hr xs M R W h => ?_
  obtain ⟨a, s, num, row, rfl, rfl, rfl, rfl, ok, hl, hR⟩ := h
  refine' dy_asg (ye_meth fm (Room.mono hr (by decide)) ?a1 ?a2 ?a2b (ya_cons (x := .da (.int num)) (se_de ?a3) (ya_cons (x := .da (.str row)) (se_de ?a4) (ya_nil (callOk_all (.refl _) ?a5))))) rfl ?a6
  (case a6 => walk_at "dv loc")
  (case a1 => walk_at "dv se")
  (case a2 => walk_at "dv mem")
  (case a2b => rfl)
  (case a3 => exact de_nm (by rfl) (by rfl) (by walk_at "dv vis"))
  (case a4 => exact de_nm (by rfl) (by rfl) (by walk_at "dv vis"))
  (case a5 =>
  refine ⟨a, s, num, row, rfl, rfl, rfl, rfl, ok, hl, ?_⟩
  refine' dy_if (yt_dt (b0 := hasK s.written num || decide (((sortW (marksF s.known num row)).length : Int) < s.wanted)) ?t ⟨fun hb => ?p, fun hb => ?q⟩)
  (case t =>
    have e1 : hasK s.written num = (valD (kvK fWr s.written) (Sum.inl num : Key)).isSome := (kvK_has fWr s.written num).symm
    have e2 : decide (((sortW (marksF s.known num row)).length : Int) < s.wanted) = decide ((((sortW (marksF s.known num row)).map wd).length : Int) < s.wanted) := by rw [List.length_map]
    rw [e1, e2]
    refine' dt_w (dw_orX (dt_inS (q := a.w) ?u1 ?u2 ?u3) (orW_G fun _ => dw_or1 ?u4))
    (case u1 => exact de_nm (by rfl) (by rfl) (by walk_at "dv vis"))
    (case u2 => walk_at "dv se")
    (case u3 => walk_at "dv mem")
    (case u4 => walk_at "dv dt"))
  (case p =>
    have e : writeF s num row = (s, []) := if_pos hb
    rw [e] at hR
    refine' dy_liftR (ds_ret ?p1) hR
    (case p1 => walk_at "dv de"))
  (case q =>
    have e : writeF s num row = ({ s with written := s.written ++ [(num, (row, sortW (marksF s.known num row)))] }, sortW (marksF s.known num row)) := if_neg (fun z => by rw [hb] at z; cases z)
    rw [e] at hR
    have hk : hasK s.written num = false := by
      cases q : hasK s.written num with
      | false => rfl
      | true => rw [q] at hb; cases hb
    have es := kvK_snoc fWr s.written num (row, sortW (marksF s.known num row))
    refine' dy_nil (dy_putD (q := a.w) (i := num) (d := .tuple [.str row, .list ((sortW (marksF s.known num row)).map wd)]) (M' := hM a { s with written := s.written ++ [(num, (row, sortW (marksF s.known num row)))] }) ?q1 ?q2 ?q3 ?q4 (kvK_none hk) ?q5 ?q6)
    (case q1 => walk_at "dv de")
    (case q2 => walk_at "dv se")
    (case q3 => exact de_nm (by rfl) (by rfl) (by walk_at "dv vis"))
    (case q4 =>
      show PutO _ _ _ _ [_, _, _, (a.w, .d (kvK fWr (s.written ++ [(num, (row, sortW (marksF s.known num row)))]))), _, _]
      rw [es]
      walk_at "dv put")
    (case q5 => rw [kvK_len]; exact Nat.lt_of_le_of_lt ok.lw (Nat.le_of_ble_eq_true rfl))
    (case q6 =>
      refine' dy_liftR (d := .list ((sortW (marksF s.known num row)).map wd)) (ds_ret ?q7) hR
      (case q7 => walk_at "dv de"))))
end
section
local macro_rules | `(tactic| walk_at "dv g") => `(tactic| first | assumption | exact g_among_i | exact g_row_i (by assumption) | exact g_unlike_w | exact gC_ok (by assumption) (by assumption) | exact gC_er (by assumption))
local macro_rules | `(tactic| walk_at "dv own") => `(tactic| first | ((refine' de_ix (da := wd _) ?h1 de_int ?h2); (case h1 => exact de_nm (by rfl) (by rfl) (by walk_at "dv vis")); (case h2 => exact ixOk_U rfl)) | ((refine' de_se ?h); (case h => (refine' se_fld ?h1 ?h2 ?h3 ?h4 ?h5; (case h1 => walk_at "dv se"); (case h2 => walk_at "dv mem"); (case h3 => walk_at "dv cls"); (case h4 => walk_at "dv cls"); (case h5 => rfl)))))
theorem sc_hname : FnScope ["self", "before", "word", "found", "one"] ["self", "before", "word"] (defScope s_hname) := ⟨rfl, rfl, rfl, by decide +kernel, rfl, by decide +kernel, by decide +kernel⟩
theorem ok_hname {f C PT : Addr} {fd : FuncData} (F : Fun K "name" "House.name" s_hname f fd) (bl : Bl mg) (hc : HouseC K C) (fu : Pfn P w K mg base "are_unlike" 1 g_unlike) : FnOk P w K mg base (L2N.CX P w) 2 f fd ["self", "before", "word"] (spM K (g_name C PT)) := by
  obtain ⟨hcc, n1, n2, n3, n4, n5, n6, n7, n8⟩ := hc
  refine fnM F sc_hname bl (fun xs M R W ⟨_, _, _, _, e, _⟩ => by rw [e]; rfl) fun cdv A outer s0 H E hu hr xs M R W h => ?_
  obtain ⟨a, s, bef, x, rfl, rfl, rfl, rfl, ok, hl, hw, hR⟩ := h
  refine' dy_lift (ds_setLc (i := 3) (own := [("one", 4)]) (b := bName 4) (zs := (bef.filter fun b => unl b x).map wd) (di_list (ds := bef.map wd) ?a1) (blkOk_by rfl) ?a3 tg_name (cp_words (fun b => unl b x) fun y hy => ?a4) ?a5 rfl rfl rfl) ?a6
  (case a1 => exact de_nm (by rfl) (by rfl) (by walk_at "dv vis"))
  (case a3 => intro s H C cl fp; exact pg_name (Fr.nd _) rfl (by walk_at "dv loc"))
  (case a4 =>
    refine ⟨_, rfl, fun s1 H1 C1 cl fp => dts_one (dt_val ?b1), fun w1 e1 s1 H1 C1 cl fp => ?b2⟩
    (case b1 => walk_at "dv de")
    (case b2 =>
      cases q : unl y x with
      | false => rw [q] at e1; cases e1
      | true =>
        rw [q, if_pos rfl] at e1
        cases e1
        exact de_nm (by rfl) (by rfl) (by walk_at "dv vis")))
  (case a5 =>
    rw [List.length_map]
    exact Nat.lt_of_le_of_lt hl (Nat.le_of_ble_eq_true rfl))
  (case a6 =>
  have hdk : DOk 8 (.list ((bef.filter fun b => unl b x).map wd)) := dok_list (wds_dok fun y hy => hw y (List.mem_filter.mp hy).1)
  cases hf : bef.filter fun b => unl b x with
  | nil =>
    have e : nameF s bef x = (s, []) := by unfold nameF; rw [hf]
    rw [e] at hR
    refine' dy_ifT (x := true) ?c1 rfl ?c2
    (case c1 =>
      refine' dt_w (dw_orX (x := true) (dt_cmp (da := .list []) (db := .list []) ?d1 ?d2 ?d3) (orW_T rfl))
      (case d1 => exact de_nm (by rfl) (by rfl) (by walk_at "dv vis"))
      (case d2 => walk_at "dv de")
      (case d3 => exact bd_eqD (d := .list []) (e := .list []) (Fr.hu _) (shp (n := 8) (dok_list doka_nil) (by decide)) (shp (n := 8) (dok_list doka_nil) (by decide))))
    (case c2 =>
      refine' dy_liftR (ds_ret ?c3) hR
      (case c3 => walk_at "dv de"))
  | cons f0 r0 =>
    rw [hf] at hdk
    have hne : PyData.eqv (.list ((f0 :: r0).map wd)) (.list []) = false := nil_eqv (f0 :: r0)
    have tt : ∀ b0, hasK s.named x.h = b0 → DT ((frOf P w K mg base ["self", "before", "word", "found", "one"] "House.name" (defScope s_hname) f cdv A outer s0 H E hu bl sc_hname.nd).ms (hM a s)) [.rf a.p, .da (.list (bef.map wd)), .da (wd x), .da (.list ((f0 :: r0).map wd)), .un] (match (defBody s_hname).getD 1 (.Pass ⟨0, 0, 0, 0⟩) with | .If c _ _ _ => c | _ => .Constant .none 0 ⟨0, 0, 0, 0⟩) b0 := by
      intro b0 hb0
      rw [← hb0, ← kvK_has fNm s.named x.h]
      refine' dt_w (dw_orX (x := false) (dt_cmp (da := .list ((f0 :: r0).map wd)) (db := .list []) ?g1 ?g2 ?g3) (orW_F rfl (dw_or1 (dt_inS (q := a.nm) ?g4 ?g5 ?g6))))
      (case g1 => exact de_nm (by rfl) (by rfl) (by walk_at "dv vis"))
      (case g2 => walk_at "dv de")
      (case g3 => rw [← hne]; exact bd_eqD (Fr.hu _) (shp (n := 8) hdk (by decide)) (shp (n := 8) (dok_list doka_nil) (by decide)))
      (case g4 => walk_at "dv de")
      (case g5 => walk_at "dv se")
      (case g6 => walk_at "dv mem")
    cases hk : hasK s.named x.h with
    | true =>
      have e : nameF s bef x = (s, []) := by unfold nameF; rw [hf]; exact if_pos hk
      rw [e] at hR
      refine' dy_ifT (tt true hk) rfl ?h1
      (case h1 =>
        refine' dy_liftR (ds_ret ?h2) hR
        (case h2 => walk_at "dv de"))
    | false =>
      have e : nameF s bef x = ({ s with named := s.named ++ [(x.h, (f0, x))] }, [f0, x]) := by unfold nameF; rw [hf]; exact if_neg (fun z => by rw [hk] at z; cases z)
      rw [e] at hR
      have es := kvK_snoc fNm s.named x.h (f0, x)
      refine' dy_skip (tt false hk) rfl ?i1
      (case i1 =>
      refine' dy_putD (q := a.nm) (i := x.h) (d := .tuple [.int x.h, wd f0, wd x]) (M' := hM a { s with named := s.named ++ [(x.h, (f0, x))] }) ?q1 ?q2 ?q3 ?q4 (kvK_none hk) ?q5 ?q6
      (case q1 =>
        refine' de_tup (da_cons ?r1 (da_cons (de_ix (da := .list ((f0 :: r0).map wd)) ?r2 de_int (ixOk_L (atI_zero _ _))) (da_cons ?r3 da_nil))) (Nat.le_of_ble_eq_true rfl)
        (case r1 => walk_at "dv de")
        (case r2 => exact de_nm (by rfl) (by rfl) (by walk_at "dv vis"))
        (case r3 => exact de_nm (by rfl) (by rfl) (by walk_at "dv vis")))
      (case q2 => walk_at "dv se")
      (case q3 => walk_at "dv de")
      (case q4 =>
        show PutO _ _ _ _ [_, _, _, _, (a.nm, .d (kvK fNm (s.named ++ [(x.h, (f0, x))]))), _]
        rw [es]
        walk_at "dv put")
      (case q5 => rw [kvK_len]; exact Nat.lt_of_le_of_lt ok.ln (Nat.le_of_ble_eq_true rfl))
      (case q6 =>
        refine' dy_liftR (d := .list [wd f0, wd x]) (ds_ret ?q7) hR
        (case q7 =>
          refine' de_list (da_cons (de_ix (da := .list ((f0 :: r0).map wd)) ?s2 de_int (ixOk_L (atI_zero _ _))) (da_cons ?s3 da_nil)) (Nat.le_of_ble_eq_true rfl)
          (case s2 => exact de_nm (by rfl) (by rfl) (by walk_at "dv vis"))
          (case s3 => exact de_nm (by rfl) (by rfl) (by walk_at "dv vis"))))))
end
section
local macro_rules | `(tactic| walk_at "dv g") => `(tactic| first | assumption | exact g_among_i | exact g_row_i (by assumption) | exact g_unlike_w | exact gC_ok (by assumption) (by assumption) | exact gC_er (by assumption))
local macro_rules | `(tactic| walk_at "dv own") => `(tactic| first | ((refine' de_ix (da := wd _) ?h1 de_int ?h2); (case h1 => exact de_nm (by rfl) (by rfl) (by walk_at "dv vis")); (case h2 => exact ixOk_U rfl)) | ((refine' de_se ?h); (case h => (refine' se_fld ?h1 ?h2 ?h3 ?h4 ?h5; (case h1 => walk_at "dv se"); (case h2 => walk_at "dv mem"); (case h3 => walk_at "dv cls"); (case h4 => walk_at "dv cls"); (case h5 => rfl)))))
theorem sc_hhear : FnScope ["self", "word", "before", "told"] ["self", "word"] (defScope s_hhear) := ⟨rfl, rfl, rfl, by decide +kernel, rfl, by decide +kernel, by decide +kernel⟩
theorem ok_hhear {f C PT : Addr} {fd : FuncData} (F : Fun K "hear" "House.hear" s_hhear f fd) (bl : Bl mg) (hc : HouseC K C) (fw : MtdM P w K mg base C "write" 5 (g_write C PT)) (fn : MtdM P w K mg base C "name" 2 (g_name C PT)) : FnOk P w K mg base (L2N.CX P w) 6 f fd ["self", "word"] (spM K (g_hear C PT)) := by
  obtain ⟨hcc, n1, n2, n3, n4, n5, n6, n7, n8⟩ := hc
  refine fnM F sc_hhear bl (fun xs M R W ⟨_, _, _, e, _⟩ => by rw [e]; rfl) fun cdv A outer s0 H E hu hr xs M R W h => ?_
  obtain ⟨a, s, x, rfl, rfl, rfl, rfl, ok, hx, hR⟩ := h
  by_cases hin : x ∈ s.known
  · have e : hearF s x = (s, []) := by rw [hearF_eq, if_pos hin]
    rw [e] at hR
    refine' dy_ifT (x := true) ?a1 rfl (dy_ret (ye_newL hR))
    (case a1 =>
      have e2 : true = (s.known.map wd).any fun z => PyData.eqv z (wd x) := by rw [any_wd, decide_eq_true hin]
      rw [e2]
      refine' dt_inL (q := a.k) ?b1 ?b2 ?b3 ?b4 ?b5
      (case b1 => exact de_nm (by rfl) (by rfl) (by walk_at "dv vis"))
      (case b2 => walk_at "dv se")
      (case b3 => walk_at "dv mem")
      (case b4 => exact shp (n := 8) (wd_dok hx.ok) (by decide))
      (case b5 => exact shp (n := 8) (dok_list (wds_dok ok.wok)) (by decide)))
  · have e : hearF s x = ((nameF (writeF (heard1 s x) x.m x.r).1 s.known x).1, (if sayB s x then [mkW s x] else []) ++ (writeF (heard1 s x) x.m x.r).2 ++ (nameF (writeF (heard1 s x) x.m x.r).1 s.known x).2) := by rw [hearF_eq, if_neg hin]
    rw [e] at hR
    have ok1 : (heard1 s x).Ok 200000 := (heard1_ok ok hx hin).up (by decide)
    have okw : (writeF (heard1 s x) x.m x.r).1.Ok 200000 := (write_ok ((heard1_ok ok hx hin)) hx.ok.2).up (by decide)
    have fin : ∀ (t : List Wd), t.length ≤ 1 → (∀ q, R (.rf q) ((q, .l ((t ++ (writeF (heard1 s x) x.m x.r).2 ++ (nameF (writeF (heard1 s x) x.m x.r).1 s.known x).2).map wd)) :: hM a (nameF (writeF (heard1 s x) x.m x.r).1 s.known x).1)) → ∀ pt, pt ∉ adr (hM a s) →
        DY (frOf P w K mg base ["self", "word", "before", "told"] "House.hear" (defScope s_hhear) f cdv A outer s0 H E hu bl sc_hhear.nd) (adr (hM a s)) ((pt, .l (t.map wd)) :: hM a (heard1 s x)) [.rf a.p, .da (wd x), .da (.list (s.known.map wd)), .rf pt] ((defBody s_hhear).drop 5) { nx := fun _ M' => R (.da .none) M', rt := R, er := W } := by
      intro t ht hR pt hpt
      refine' dy_iceL (p := pt) (ds := t.map wd) (j := 3) hpt (.refl _) rfl ?r0
      (case r0 =>
      refine' dy_ret (ye_addF (ye_bin (ye_de (d := .list (t.map wd)) ?a1 (ye_meth fw (Room.mono hr (by decide)) ?b1 ?b2 ?b3 (ya_cons (x := .da (.int x.m)) (se_de ?b4) (ya_cons (x := .da (.str x.r)) (se_de ?b5) (ya_nil (callOk_all (.refl _) ?b6))))))))
      (case a1 => exact de_nm (by rfl) (by rfl) (by walk_at "dv vis"))
      (case b1 => walk_at "dv se")
      (case b2 => walk_at "dv mem")
      (case b3 => rfl)
      (case b4 => walk_at "dv de")
      (case b5 => walk_at "dv de")
      (case b6 =>
      refine ⟨a, heard1 s x, x.m, x.r, rfl, rfl, rfl, rfl, ok1, hx.ok.2, ?_⟩
      refine ⟨_, _, _, rfl, rfl, bd_addL ?c1, ?c2⟩
      (case c1 =>
        rw [List.length_map, List.length_map]
        have := write_len2 (heard1 s x) x.m x.r
        have := ok1.lk
        exact Nat.le_trans (by omega : _ ≤ 300000) (Nat.le_of_ble_eq_true rfl))
      (case c2 =>
      refine' ye_meth fn (Room.mono hr (by decide)) ?d1 ?d2 ?d3 (ya_cons (x := .da (.list (s.known.map wd))) (se_de ?d4) (ya_cons (x := .da (wd x)) (se_de ?d5) (ya_nil (callOk_all (.refl _) ?d6))))
      (case d1 => walk_at "dv se")
      (case d2 => walk_at "dv mem")
      (case d3 => rfl)
      (case d4 => exact de_nm (by rfl) (by rfl) (by walk_at "dv vis"))
      (case d5 => exact de_nm (by rfl) (by rfl) (by walk_at "dv vis"))
      (case d6 =>
      refine ⟨a, (writeF (heard1 s x) x.m x.r).1, s.known, x, rfl, rfl, rfl, rfl, okw, Nat.le_trans ok.lk (by decide), ok.wok, ?_⟩
      refine ⟨_, _, rfl, rfl, ?e1, fun q => ?e2⟩
      (case e1 =>
        rw [List.length_append, List.length_map, List.length_map, List.length_map]
        have := write_len2 (heard1 s x) x.m x.r
        have := name_len2 (writeF (heard1 s x) x.m x.r).1 s.known x
        have := ok1.lk
        exact Nat.le_trans (by omega : _ ≤ 300000) (Nat.le_of_ble_eq_true rfl))
      (case e2 =>
        have := hR q
        rw [List.map_append, List.map_append] at this
        exact this)))))
    refine' dy_skip (x := false) ?a1 rfl (dy_lift (ds_asgN (de_listS (q := a.k) ?b1 ?b2) (by rfl) ?b3) ?b4)
    (case a1 =>
      have e2 : false = (s.known.map wd).any fun z => PyData.eqv z (wd x) := by rw [any_wd, decide_eq_false hin]
      rw [e2]
      refine' dt_inL (q := a.k) ?c1 ?c2 ?c3 ?c4 ?c5
      (case c1 => exact de_nm (by rfl) (by rfl) (by walk_at "dv vis"))
      (case c2 => walk_at "dv se")
      (case c3 => walk_at "dv mem")
      (case c4 => exact shp (n := 8) (wd_dok hx.ok) (by decide))
      (case c5 => exact shp (n := 8) (dok_list (wds_dok ok.wok)) (by decide)))
    (case b1 => walk_at "dv se")
    (case b2 => walk_at "dv mem")
    (case b3 => walk_at "dv loc")
    (case b4 =>
    have hlk : (s.known.map wd).length < sizeLine := by rw [List.length_map]; exact Nat.lt_of_le_of_lt ok.lk (Nat.le_of_ble_eq_true rfl)
    have em : (s.known ++ [x]).map wd = s.known.map wd ++ [wd x] := by rw [List.map_append]; rfl
    refine' dy_expr (ye_app (q := a.k) (ds0 := s.known.map wd) ?d1 ?d2 (ye_de (d := wd x) ?d3 ⟨wd x, s.known.map wd, hM a { s with known := s.known ++ [x] }, rfl, ?d4, hlk, ?d5⟩))
    (case d1 => walk_at "dv se")
    (case d2 => walk_at "dv mem")
    (case d3 => exact de_nm (by rfl) (by rfl) (by walk_at "dv vis"))
    (case d4 =>
      show PutO _ _ _ _ [_, (a.k, .l ((s.known ++ [x]).map wd)), _, _, _, _]
      rw [em]
      walk_at "dv put")
    (case d5 =>
    refine' dy_newL (fun pt hpt => ?f1) rfl ?f2
    (case f2 => walk_at "dv loc")
    (case f1 =>
    refine' dy_if (yt_dt (b0 := sayB s x) ?zt ⟨fun hb => ?zp, fun hb => ?zq⟩)
    (case zt =>
      unfold sayB
      rw [← kvK_has fMk s.marked x.m]
      refine' dt_w (dw_andX (dt_cmp ?u1 ?u2 bd_eqT) (andW_G fun _ => dw_and1 (dt_ninS (q := a.m) ?u3 ?u4 ?u5)))
      (case u1 => walk_at "dv de")
      (case u2 => exact de_str)
      (case u3 => walk_at "dv de")
      (case u4 => walk_at "dv se")
      (case u5 => walk_at "dv mem"))
    (case zp =>
      have hnm : hasK s.marked x.m = false := by
        unfold sayB at hb
        rw [Bool.and_eq_true, Bool.not_eq_true'] at hb
        exact hb.2
      have es := kvK_snoc fMk s.marked x.m x.r
      have eh : heard1 s x = { s with known := s.known ++ [x] ++ [mkW s x], marked := s.marked ++ [(x.m, x.r)] } := by unfold heard1; rw [hb]; rfl
      have em2 : (s.known ++ [x] ++ [mkW s x]).map wd = (s.known ++ [x]).map wd ++ [wd (mkW s x)] := by rw [List.map_append]; rfl
      have fin1 := fin [mkW s x] (Nat.le_refl 1) (by rw [hb] at hR; exact hR) pt hpt
      rw [eh] at fin1
      refine' dy_putD (q := a.m) (i := x.m) (d := .str x.r) (M' := (pt, .l []) :: hM a { s with known := s.known ++ [x], marked := s.marked ++ [(x.m, x.r)] }) ?g1 ?g2 ?g3 ?g4 (kvK_none hnm) ?g5 ?g6
      (case g1 => walk_at "dv de")
      (case g2 => walk_at "dv se")
      (case g3 => walk_at "dv de")
      (case g4 =>
        show PutO _ _ _ _ [_, _, _, (a.m, .d (kvK fMk (s.marked ++ [(x.m, x.r)]))), _, _, _]
        rw [es]
        walk_at "dv put")
      (case g5 => rw [kvK_len]; exact Nat.lt_of_le_of_lt ok.lm (Nat.le_of_ble_eq_true rfl))
      (case g6 =>
      refine' dy_expr (ye_app (q := pt) (ds0 := []) ?h1 ?h2 (ye_de (d := wd (mkW s x)) ?h3 ⟨wd (mkW s x), [], (pt, .l [wd (mkW s x)]) :: hM a { s with known := s.known ++ [x], marked := s.marked ++ [(x.m, x.r)] }, rfl, PutO.here, Nat.le_of_ble_eq_true rfl, ?h4⟩))
      (case h1 => walk_at "dv se")
      (case h2 => walk_at "dv mem")
      (case h3 =>
        refine' de_tup (da_cons de_str (da_cons ?i1 (da_cons ?i2 (da_cons ?i3 da_nil)))) (Nat.le_of_ble_eq_true rfl)
        (case i1 => walk_at "dv de")
        (case i2 => walk_at "dv de")
        (case i3 => walk_at "dv de"))
      (case h4 =>
      refine' dy_expr (ye_app (q := a.k) (ds0 := (s.known ++ [x]).map wd) ?j1 ?j2 (ye_de (d := wd (mkW s x)) (de_se (se_ixL (q := pt) (ds := [wd (mkW s x)]) (i := 0) ?j3 ?j4 de_int rfl)) ⟨wd (mkW s x), (s.known ++ [x]).map wd, (pt, .l [wd (mkW s x)]) :: hM a { s with known := s.known ++ [x] ++ [mkW s x], marked := s.marked ++ [(x.m, x.r)] }, rfl, ?j5, ?j6, ?j7⟩))
      (case j1 => walk_at "dv se")
      (case j2 => walk_at "dv mem")
      (case j3 => walk_at "dv se")
      (case j4 => walk_at "dv mem")
      (case j5 =>
        show PutO _ _ _ _ [_, _, (a.k, .l ((s.known ++ [x] ++ [mkW s x]).map wd)), _, _, _, _]
        rw [em2]
        walk_at "dv put")
      (case j6 =>
        rw [List.length_map, List.length_append]
        have := ok.lk
        exact Nat.lt_of_le_of_lt (by simp; omega : _ ≤ 100001) (Nat.le_of_ble_eq_true rfl))
      (case j7 => exact dy_nil fin1))))
    (case zq =>
      have eh : heard1 s x = { s with known := s.known ++ [x] } := by unfold heard1; rw [hb]; rfl
      have fin1 := fin [] (Nat.zero_le 1) (by rw [hb] at hR; exact hR) pt hpt
      rw [eh] at fin1
      exact dy_nil fin1))))
end
section
local macro_rules | `(tactic| walk_at "dv g") => `(tactic| first | assumption | exact g_among_i | exact g_row_i (by assumption) | exact g_unlike_w | exact gC_ok (by assumption) (by assumption) | exact gC_er (by assumption))
local macro_rules | `(tactic| walk_at "dv own") => `(tactic| first | ((refine' de_ix (da := wd _) ?h1 de_int ?h2); (case h1 => exact de_nm (by rfl) (by rfl) (by walk_at "dv vis")); (case h2 => exact ixOk_U rfl)) | ((refine' de_se ?h); (case h => (refine' se_fld ?h1 ?h2 ?h3 ?h4 ?h5; (case h1 => walk_at "dv se"); (case h2 => walk_at "dv mem"); (case h3 => walk_at "dv cls"); (case h4 => walk_at "dv cls"); (case h5 => rfl)))))
theorem sc_hcall : FnScope ["self", "row", "word"] ["self", "row"] (defScope s_hcall) := ⟨rfl, rfl, rfl, by decide +kernel, rfl, by decide +kernel, by decide +kernel⟩
theorem ok_hcall {f C PT CR : Addr} {fd : FuncData} (F : Fun K "call" "House.call" s_hcall f fd) (bl : Bl mg) (hc : HouseC K C) (fr : Pfn P w K mg base "is_row" 1 g_row) (fh : MtdM P w K mg base C "hear" 6 (g_hear C PT)) (eR : Ecl K mg "BadRow" CR) : FnOk P w K mg base (L2N.CX P w) 7 f fd ["self", "row"] (spM K (g_hcall C PT CR)) := by
  obtain ⟨hcc, n1, n2, n3, n4, n5, n6, n7, n8⟩ := hc
  refine fnM F sc_hcall bl (fun xs M R W ⟨_, _, _, e, _⟩ => by rw [e]; rfl) fun cdv A outer s0 H E hu hr xs M R W h => ?_
  obtain ⟨a, s, x, rfl, rfl, rfl, rfl, ok, hl, hb, h⟩ := h
  have hgr : g_row [x] (.ok (.bool (isRow x))) := g_row_i hl
  rcases h with ⟨r, rfl, hrow, hR⟩ | ⟨hrow, hW⟩
  · rw [hrow] at hgr
    have hcm : CMul s.n s.calls := .inl ⟨by omega, by omega⟩
    refine' dy_skip (x := false) ?a1 rfl (dy_lift (ds_asgN (d := wd ⟨"say", s.own + s.n * s.calls, r, s.own⟩) ?b1 (by rfl) ?b2) ?b3)
    (case a1 =>
      refine' dt_not (x := true) (dt_val ?c1)
      (case c1 => walk_at "dv de"))
    (case b1 =>
      refine' de_tup (da_cons de_str (da_cons (de_bin ?d1 (de_bin ?d2 ?d3 (bd_mulI hcm)) bd_addI) (da_cons ?d4 (da_cons ?d5 da_nil)))) (Nat.le_of_ble_eq_true rfl)
      (case d1 => walk_at "dv de")
      (case d2 => walk_at "dv de")
      (case d3 => walk_at "dv de")
      (case d4 => exact de_nm (by rfl) (by rfl) (by walk_at "dv vis"))
      (case d5 => walk_at "dv de"))
    (case b2 => walk_at "dv loc")
    (case b3 =>
    refine' dy_fld (ye_de (d := .int (s.calls + 1)) ?e0 ⟨a.p, a.C, _, hM a { s with calls := s.calls + 1 }, ?e1, ?e2, hcc, n8, ?e3, ?e4⟩)
    (case e0 => walk_at "dv de")
    (case e1 => walk_at "dv se")
    (case e2 => walk_at "dv put")
    (case e3 => exact Nat.le_of_ble_eq_true rfl)
    (case e4 =>
    have ok1 : ({ s with calls := s.calls + 1 } : Hs).Ok 100000 := ⟨ok.wok, ok.nd, ok.lk, ok.lm, ok.lw, ok.ln, ok.kw, ok.om, ok.wo, ok.no⟩
    have hx : HearOk { s with calls := s.calls + 1 } ⟨"say", s.own + s.n * s.calls, r, s.own⟩ := ⟨⟨⟨show ("say" : Str).length ≤ 1000 by decide, show PyData.strOk "say" = true by decide +kernel⟩, hl⟩, .inr fun z => absurd (show ("say" : Str) = "mark" from z.1) (by decide)⟩
    refine' dy_ret (ye_addF (ye_de (d := .list [wd ⟨"say", s.own + s.n * s.calls, r, s.own⟩]) ?f1 (ye_ice (ye_meth fh (Room.mono hr (by decide)) ?f2 ?f3 ?f4 (ya_cons (x := .da (wd ⟨"say", s.own + s.n * s.calls, r, s.own⟩)) (se_de ?f5) (ya_nil (callOk_all (.refl _) ?f6)))))))
    (case f1 =>
      refine' de_list (da_cons ?g1 da_nil) (Nat.le_of_ble_eq_true rfl)
      (case g1 => exact de_nm (by rfl) (by rfl) (by walk_at "dv vis")))
    (case f2 => walk_at "dv se")
    (case f3 => walk_at "dv mem")
    (case f4 => rfl)
    (case f5 => exact de_nm (by rfl) (by rfl) (by walk_at "dv vis"))
    (case f6 =>
      refine ⟨a, { s with calls := s.calls + 1 }, ⟨"say", s.own + s.n * s.calls, r, s.own⟩, rfl, rfl, rfl, rfl, ok1, hx, fun q => ?_⟩
      refine ⟨q, _, _, rfl, .refl _, fun z hz => hz, _, _, rfl, rfl, ?_, fun q2 => hR q2⟩
      rw [List.length_map]
      have := hear_len2 { s with calls := s.calls + 1 } ⟨"say", s.own + s.n * s.calls, r, s.own⟩
      have h3 : ({ s with calls := s.calls + 1 } : Hs).known.length ≤ 100000 := ok.lk
      exact Nat.le_trans (by rw [List.length_singleton]; omega : _ ≤ 100010) (Nat.le_of_ble_eq_true rfl))))
  · rw [hrow] at hgr
    refine' dy_ifT (x := true) ?a2 rfl (dy_liftE (ds_raiseC (by assumption)) hW)
    (case a2 =>
      refine' dt_not (x := false) (dt_val ?c2)
      (case c2 => walk_at "dv de"))
end
section
local macro_rules | `(tactic| walk_at "dv g") => `(tactic| first | assumption | exact g_among_i | exact g_row_i (by assumption) | exact g_unlike_w | exact gC_ok (by assumption) (by assumption) | exact gC_er (by assumption))
local macro_rules | `(tactic| walk_at "dv own") => `(tactic| first | ((refine' de_ix (da := wd _) ?h1 de_int ?h2); (case h1 => exact de_nm (by rfl) (by rfl) (by walk_at "dv vis")); (case h2 => exact ixOk_U rfl)) | ((refine' de_se ?h); (case h => (refine' se_fld ?h1 ?h2 ?h3 ?h4 ?h5; (case h1 => walk_at "dv se"); (case h2 => walk_at "dv mem"); (case h3 => walk_at "dv cls"); (case h4 => walk_at "dv cls"); (case h5 => rfl)))))
theorem sc_hledger : FnScope ["self", "rows", "number"] ["self"] (defScope s_hledger) := ⟨rfl, rfl, rfl, by decide +kernel, rfl, by decide +kernel, by decide +kernel⟩
theorem ok_hledger {f C : Addr} {fd : FuncData} (F : Fun K "ledger" "House.ledger" s_hledger f fd) (bl : Bl mg) (hc : HouseC K C) : FnOk P w K mg base (L2N.CX P w) 1 f fd ["self"] (spM K (g_ledger C)) := by
  obtain ⟨hcc, n1, n2, n3, n4, n5, n6, n7, n8⟩ := hc
  refine fnM F sc_hledger bl (fun xs M R W ⟨_, _, e, _⟩ => by rw [e]; rfl) fun cdv A outer s0 H E hu hr xs M R W h => ?_
  obtain ⟨a, s, rfl, rfl, rfl, ok, hR⟩ := h
  have hnd : ((ledF s).map (·.1)).Nodup := (led_keys s).nodup_iff.mpr ok.kw
  refine' dy_newD (fun pt hpt => ?a1) rfl ?a2
  (case a2 => walk_at "dv loc")
  (case a1 =>
  refine' dy_for (b := bName 2) (ds := ((ledF s).map (·.1)).map .int) (I := fun i ρ' M' => M' = (pt, .d (kvK fMk ((ledF s).take i))) :: houseM a s ∧ Wk ρ' [.rf a.p, .rf pt, .un]) (di_list (de_sortedS (q := a.w) (ks := s.written.map (·.1)) ?b1 ?b2 (kvK_keys fWr s.written) ?b3 (led_keys s) (led_sorted s))) (pg_name (i := 2) (Fr.nd _) rfl (by walk_at "dv loc")) tg_name ⟨rfl, Wk.refl _⟩ ?b4 ?b5
  (case b1 => walk_at "dv se")
  (case b2 => walk_at "dv mem")
  (case b3 => rw [List.length_map]; exact Nat.lt_succ_of_le ok.lw)
  (case b4 =>
    rintro i d ρi Mi hd ⟨rfl, wk⟩
    rw [List.getElem?_map, List.getElem?_map] at hd
    cases hi : (ledF s)[i]? with
    | none => rw [hi] at hd; cases hd
    | some e =>
    rw [hi] at hd
    cases hd
    obtain ⟨hil, hie⟩ := List.getElem?_eq_some_iff.mp hi
    have et : (ledF s).take (i + 1) = (ledF s).take i ++ [(e.1, e.2)] := by rw [List.take_succ, hi]; rfl
    have es := kvK_snoc fMk ((ledF s).take i) e.1 e.2
    have hin : e ∈ ledF s := List.mem_of_getElem? hi
    have hw : ∃ y, getK s.written e.1 = some y ∧ y.1 = e.2 := by
      have := (sortK_perm (s.written.map fun e => (e.1, e.2.1))).mem_iff.mp hin
      obtain ⟨z, hz, ez⟩ := List.mem_map.mp this
      refine ⟨z.2, ?_, by rw [← ez]⟩
      have := getK_of ok.kw (i := z.1) (x := z.2) hz
      rw [← ez]
      exact this
    obtain ⟨y, hy, hy2⟩ := hw
    have hnew : hasK ((ledF s).take i) e.1 = false := by
      rw [hasK_keys, decide_eq_false_iff_not]
      intro z
      have e3 : (ledF s).map (·.1) = ((ledF s).take i).map (·.1) ++ ((ledF s).drop i).map (·.1) := by rw [← List.map_append, List.take_append_drop]
      rw [e3] at hnd
      have hd : e.1 ∈ ((ledF s).drop i).map (·.1) := List.mem_map.mpr ⟨e, by rw [List.drop_eq_getElem_cons hil, hie]; exact List.mem_cons_self, rfl⟩
      exact (List.nodup_append.mp hnd).2.2 _ z _ hd rfl
    refine ⟨[.rf a.p, .rf pt, .un], _, wk, rfl, ?_⟩
    refine' dy_putD (q := pt) (i := e.1) (d := .str e.2) (M' := (pt, .d (kvK fMk ((ledF s).take (i + 1)))) :: houseM a s) ?c1 ?c2 ?c3 ?c4 (kvK_none hnew) ?c5 (dy_nil ⟨rfl, ?c6⟩)
    (case c1 =>
      rw [← hy2]
      refine' de_ix (da := fWr e.1 y) (de_se (se_getD (q := a.w) (i := e.1) ?d1 ?d2 ?d3 ?d4)) de_int (ixOk_U rfl)
      (case d1 => walk_at "dv se")
      (case d2 => walk_at "dv mem")
      (case d3 => exact de_nm (by rfl) (by rfl) (by walk_at "dv vis"))
      (case d4 => rw [kvK_val, hy]; rfl))
    (case c2 => walk_at "dv se")
    (case c3 => exact de_nm (by rfl) (by rfl) (by walk_at "dv vis"))
    (case c4 =>
      rw [et, es]
      exact PutO.here)
    (case c5 =>
      rw [kvK_len, List.length_take, led_len]
      exact Nat.lt_of_le_of_lt (Nat.le_trans (Nat.min_le_right _ _) ok.lw) (Nat.le_of_ble_eq_true rfl))
    (case c6 => exact .cons (.inr rfl) (.cons (.inr rfl) (.cons (.inl rfl) .nil))))
  (case b5 =>
    rintro ρ' M' ⟨rfl, wk⟩
    rw [List.length_map, List.length_map, List.take_length]
    refine DY.wk (ρ' := [.rf a.p, .rf pt, .un]) (dy_ret (ye_se ?e1 (hR pt))) wk
    (case e1 => walk_at "dv se")))
theorem sc_hback : FnScope ["self", "number"] ["self", "number"] (defScope s_hback) := ⟨rfl, rfl, rfl, by decide +kernel, rfl, by decide +kernel, by decide +kernel⟩
theorem ok_hback {f C CN : Addr} {fd : FuncData} (F : Fun K "backing" "House.backing" s_hback f fd) (bl : Bl mg) (hc : HouseC K C) (fa : Pfn P w K mg base "is_among" 1 g_among) (eN : Ecl K mg "NotWritten" CN) : FnOk P w K mg base (L2N.CX P w) 2 f fd ["self", "number"] (spM K (g_hback C CN)) := by
  obtain ⟨hcc, n1, n2, n3, n4, n5, n6, n7, n8⟩ := hc
  refine fnM F sc_hback bl (fun xs M R W ⟨_, _, _, e, _⟩ => by rw [e]; rfl) fun cdv A outer s0 H E hu hr xs M R W h => ?_
  obtain ⟨a, s, x, rfl, rfl, rfl, h⟩ := h
  have hga : g_among [x, .int 0, .int 9999] (.ok (.bool (isAmong x 0 9999))) := g_among_i
  rcases h with ⟨i, y, rfl, i0, i1, hy, hR⟩ | ⟨hno, hW⟩
  · rw [among_in i0 i1] at hga
    have hv : valD (kvK fWr s.written) (Sum.inl i : Key) = some (fWr i y) := by rw [kvK_val, hy]; rfl
    refine' dy_skip (x := false) ?a1 rfl ?a2
    (case a1 =>
      refine' dt_w (dw_orX (dt_not (x := true) (dt_val ?b1)) (orW_F rfl (dw_or1 ?b2)))
      (case b1 => walk_at "dv de")
      (case b2 =>
        have e : false = !(valD (kvK fWr s.written) (Sum.inl i : Key)).isSome := by rw [hv]; rfl
        rw [e]
        refine' dt_ninS (q := a.w) ?b3 ?b4 ?b5
        (case b3 => exact de_nm (by rfl) (by rfl) (by walk_at "dv vis"))
        (case b4 => walk_at "dv se")
        (case b5 => walk_at "dv mem")))
    (case a2 =>
      refine' dy_ret (ye_copyF (ds := y.2.map wd) (de_ix (da := fWr i y) (de_se (se_getD (q := a.w) (i := i) ?c1 ?c2 ?c3 hv)) de_int (ixOk_U rfl)) hR)
      (case c1 => walk_at "dv se")
      (case c2 => walk_at "dv mem")
      (case c3 => exact de_nm (by rfl) (by rfl) (by walk_at "dv vis")))
  · cases ham : isAmong x 0 9999 with
    | false =>
      rw [ham] at hga
      refine' dy_ifT (x := true) ?a1f rfl (dy_liftE (ds_raiseC (by assumption)) hW)
      (case a1f =>
        refine' dt_w (dw_orX (dt_not (x := false) (dt_val ?b1f)) (orW_T rfl))
        (case b1f => walk_at "dv de"))
    | true =>
      obtain ⟨j, rfl, j0, j1⟩ := among_int ham
      rw [ham] at hga
      have hv : valD (kvK fWr s.written) (Sum.inl j : Key) = none := by rw [kvK_val, hno j rfl j0 j1]; rfl
      refine' dy_ifT (x := true) ?a1t rfl (dy_liftE (ds_raiseC (by assumption)) hW)
      (case a1t =>
        refine' dt_w (dw_orX (dt_not (x := true) (dt_val ?b1t)) (orW_F rfl (dw_or1 ?b2t)))
        (case b1t => walk_at "dv de")
        (case b2t =>
          have e : true = !(valD (kvK fWr s.written) (Sum.inl j : Key)).isSome := by rw [hv]; rfl
          rw [e]
          refine' dt_ninS (q := a.w) ?b3t ?b4t ?b5t
          (case b3t => exact de_nm (by rfl) (by rfl) (by walk_at "dv vis"))
          (case b4t => walk_at "dv se")
          (case b5t => walk_at "dv mem")))
theorem sc_hcaught : FnScope ["self"] ["self"] (defScope s_hcaught) := ⟨rfl, rfl, rfl, by decide +kernel, rfl, by decide +kernel, by decide +kernel⟩
theorem ok_hcaught {f C : Addr} {fd : FuncData} (F : Fun K "caught" "House.caught" s_hcaught f fd) (bl : Bl mg) (hc : HouseC K C) : FnOk P w K mg base (L2N.CX P w) 1 f fd ["self"] (spM K (g_caught C)) := by
  obtain ⟨hcc, n1, n2, n3, n4, n5, n6, n7, n8⟩ := hc
  refine fnM F sc_hcaught bl (fun xs M R W ⟨_, _, e, _⟩ => by rw [e]; rfl) fun cdv A outer s0 H E hu hr xs M R W h => ?_
  obtain ⟨a, s, rfl, rfl, rfl, hR⟩ := h
  refine' dy_ret (ye_valsF (q := a.nm) (kvs := kvK fNm s.named) ?a1 ?a2 ?a3)
  (case a1 => walk_at "dv se")
  (case a2 => walk_at "dv mem")
  (case a3 => rw [namesD_kv]; exact hR)
end
section
theorem sc_lat : FnScope ["_law_script", "_law_k"] ["_law_script", "_law_k"] (defScope s_lat) := ⟨rfl, rfl, rfl, by decide +kernel, rfl, by decide +kernel, by decide +kernel⟩
theorem ok_lat {f : Addr} {fd : FuncData} (F : Fun K "_law_at" "_law_at" s_lat f fd) (bl : Bl mg) : FnOk P w K mg base (L2N.CX P w) 1 f fd ["_law_script", "_law_k"] (spD K g_at) := by
  refine fnD F sc_lat bl (fun ds r ⟨_, _, e, _⟩ => by rw [e]; rfl) fun cdv A outer s H E hu hr ds r h => ?_
  obtain ⟨ns, k, rfl, h0, rfl⟩ := h
  by_cases h1 : k < ((ns.map PyData.int).length : Nat)
  · have hx := at_in h0 h1
    refine' ⟨_, ?bdy, ?fit⟩
    (case bdy => walk_at "dv db")
    (case fit => exact fits_ret rfl)
  · have hx := at_out h0 h1
    refine' ⟨_, ?bdy, ?fit⟩
    (case bdy => walk_at "dv db")
    (case fit => exact fits_ret (by rw [hx]))
end
section
theorem sc_sign : FnScope ["_law_cell", "_law_signs"] ["_law_cell"] (defScope s_sign) := ⟨rfl, rfl, rfl, by decide +kernel, rfl, by decide +kernel, by decide +kernel⟩
local macro_rules | `(tactic| walk_at "dv ix") => `(tactic| exact ixOk_S (z := signsS) (Nat.le_of_ble_eq_true rfl) (sign_at _))
local macro_rules | `(tactic| walk_at "dv mod") => `(tactic| exact signs_pos)
theorem ok_sign {f : Addr} {fd : FuncData} (F : Fun K "_law_sign" "_law_sign" s_sign f fd) (bl : Bl mg) : FnOk P w K mg base (L2N.CX P w) 1 f fd ["_law_cell"] (spD K g_sign) := by
  refine fnD F sc_sign bl (fun ds r ⟨_, e, _⟩ => by rw [e]; rfl) fun cdv A outer s H E hu hr ds r h => ?_
  obtain ⟨c, rfl, rfl⟩ := h
  refine' ⟨_, ?bdy, ?fit⟩
  (case bdy =>
    refine' db_then (ds_asgN ?h1 (by rfl) (by walk_at "dv loc")) ?h2
    (case h1 => exact de_str (i := signsS))
    (case h2 => walk_at "dv db"))
  (case fit => exact fits_ret rfl)
end
section
theorem sc_rowf : FnScope ["_law_base", "_law_k", "_law_letters", "_law_turned", "_law_size", "_law_tail", "_law_at_here", "_law_j"] ["_law_base", "_law_k"] (defScope s_rowf) := ⟨rfl, rfl, rfl, by decide +kernel, rfl, by decide +kernel, by decide +kernel⟩
theorem rows_small (t : Int) (h : Int → Nat) : ((((rangeL 0 (t / 26 % 8)).map fun j => (⟨#[h j]⟩ : Str)).map (·.length)).sum + ((rangeL 0 (t / 26 % 8)).map fun j => (⟨#[h j]⟩ : Str)).length * ("" : Str).length ≤ 16777216) := by
  rw [List.map_map, List.length_map, rangeL_len]
  rw [show (("" : Str).length) = 0 from rfl]
  have : (((rangeL 0 (t / 26 % 8)).map ((fun x : Str => x.length) ∘ fun j => (⟨#[h j]⟩ : Str))).sum) = (rangeL 0 (t / 26 % 8)).length := by
    generalize rangeL 0 (t / 26 % 8) = L
    induction L with
    | nil => rfl
    | cons a r ih => simp only [List.map_cons, List.sum_cons, List.length_cons, ih]; simp [Str.length]; omega
  rw [this, rangeL_len]
  omega
local macro_rules | `(tactic| walk_at "dv ix") => `(tactic| first
  | exact ixOk_S (Nat.le_of_ble_eq_true rfl) (atI_n 26 0 (by decide +kernel) (Int.emod_nonneg _ (by decide)) (Int.emod_lt_of_pos _ (by decide)))
  | exact ixOk_S (Nat.le_of_ble_eq_true rfl) (atI_n 4 0 (by decide +kernel) (Int.emod_nonneg _ (by decide)) (Int.emod_lt_of_pos _ (by decide)))
  | ((with_reducible refine' ixOk_L ?h); (case h => assumption)))
local macro_rules | `(tactic| walk_at "dv own") => `(tactic|
  (refine' de_joinM ?h1 ?h2 ?h3
   (case h1 => exact de_str)
   (case h2 =>
     refine' de_lc (own := [("_law_j", 7)]) (b := bName 7) (di_range1 ?a1 ?a2) (blkOk_by rfl) ?a3 tg_name (cp_rg fun j j0 j1 => ?a4) ?a5
     (case a1 => exact de_nm (by rfl) (by rfl) (by walk_at "dv vis"))
     (case a2 => exact ⟨by omega, by omega⟩)
     (case a3 => intro s H C cl fp; exact pg_name (Fr.nd _) rfl (by walk_at "dv loc"))
     (case a4 =>
       refine' ⟨_, rfl, fun s H C cl fp => dts_nil, fun w e s H C cl fp => ?b1⟩
       (case b1 => cases e; walk_at "dv de"))
     (case a5 => rw [rangeD_L, List.length_map, rangeL_len]; exact Nat.lt_of_lt_of_le (by omega : _ < 100) (Nat.le_of_ble_eq_true rfl)))
   (case h3 => exact rows_small _ _)))
local macro_rules | `(tactic| walk_at "dv len") => `(tactic| first | exact tail_line _ | exact tail_l1 _ | exact tail_l2 _ | exact Nat.le_of_ble_eq_true rfl)
def g_rowf : List PyData → Res → Prop := fun ds r => ∃ b k, ds = [.int b, .int k] ∧ r = .ok (.str (rowF b k))
theorem g_rowf_i {b k : Int} : g_rowf [.int b, .int k] (.ok (.str (rowF b k))) := ⟨b, k, rfl, rfl⟩
theorem ok_rowf {f : Addr} {fd : FuncData} (F : Fun K "_law_row" "_law_row" s_rowf f fd) (bl : Bl mg) : FnOk P w K mg base (L2N.CX P w) 1 f fd ["_law_base", "_law_k"] (spD K g_rowf) := by
  refine fnD F sc_rowf bl (fun ds r ⟨_, _, e, _⟩ => by rw [e]; rfl) fun cdv A outer s H E hu hr ds r h => ?_
  obtain ⟨b, k, rfl, rfl⟩ := h
  have hx : atI ([.str "say", .str "mark", .str "by", .str "house"] : List PyData) (k % 4) = some (.str (namesL.getD (k % 4).toNat "")) := by
    have hs : k % 4 = 0 ∨ k % 4 = 1 ∨ k % 4 = 2 ∨ k % 4 = 3 := by omega
    rcases hs with h | h | h | h <;> rw [h] <;> rfl
  by_cases h9 : b % 9 = 4
  · have er : rowF b k = namesL.getD (k % 4).toNat "" := if_pos h9
    rw [er]
    by_cases h2 : b % 2 = 0
    · refine' ⟨_, ?bdy, ?fit⟩
      (case bdy => walk_at "dv db")
      (case fit => exact fits_ret rfl)
    · refine' ⟨_, ?bdy, ?fit⟩
      (case bdy => walk_at "dv db")
      (case fit => exact fits_ret rfl)
  · have er : rowF b k = rowAt (turnF b k) (placeF b (turnF b k / 26 % 8)) k := if_neg h9
    rw [er]
    have hp := place_in b (turnF b k / 26 % 8) (by omega)
    by_cases h2 : b % 2 = 0
    · have ep : placeF b (turnF b k / 26 % 8) = b / 4 % (turnF b k / 26 % 8 + 1) := if_pos h2
      rw [ep]
      refine' ⟨_, ?bdy, ?fit⟩
      (case bdy => walk_at "dv db")
      (case fit => exact fits_ret rfl)
    · have ep : placeF b (turnF b k / 26 % 8) = turnF b k / 26 % 8 := if_neg h2
      rw [ep]
      refine' ⟨_, ?bdy, ?fit⟩
      (case bdy => walk_at "dv db")
      (case fit => exact fits_ret rfl)
end
section
theorem sc_kind : FnScope ["_law_error", "_law_words", "_law_found"] ["_law_error"] (defScope s_kind) := ⟨rfl, rfl, rfl, by decide +kernel, rfl, by decide +kernel, by decide +kernel⟩
def kCount : PyData := .tuple [.str "count"]
def kHouse : PyData := .tuple [.str "house"]
def kRow : PyData := .tuple [.str "row"]
def kWritten : PyData := .tuple [.str "written"]
/-- the classes, as the error's class C sees them: the j-th alone -/
structure Kd (K : PySem.W.Frag) (mg : Str → Option Value) (C : Addr) (j : Nat) : Prop where
  ex : ExcC K C
  k1 : ∃ D, mg "BadCount" = some (.ref D) ∧ PySem.W.kitOne K (.ref C) (.ref D) = some (j == 0)
  k2 : ∃ D, mg "BadHouse" = some (.ref D) ∧ PySem.W.kitOne K (.ref C) (.ref D) = some (j == 1)
  k3 : ∃ D, mg "BadRow" = some (.ref D) ∧ PySem.W.kitOne K (.ref C) (.ref D) = some (j == 2)
  k4 : ∃ D, mg "BadWord" = some (.ref D) ∧ PySem.W.kitOne K (.ref C) (.ref D) = some (j == 3)
  k5 : ∃ D, mg "Forged" = some (.ref D) ∧ PySem.W.kitOne K (.ref C) (.ref D) = some (j == 4)
  k6 : ∃ D, mg "NoLetter" = some (.ref D) ∧ PySem.W.kitOne K (.ref C) (.ref D) = some (j == 5)
  k7 : ∃ D, mg "NotWritten" = some (.ref D) ∧ PySem.W.kitOne K (.ref C) (.ref D) = some (j == 6)
  k8 : ∃ D, mg "NoText" = some (.ref D) ∧ PySem.W.kitOne K (.ref C) (.ref D) = some (j == 7)
  kv : PySem.W.kitOne K (.ref C) (.type "ValueError") = some true
  mv : mg "ValueError" = none
def kRel (C0 C1 C2 C3 : Addr) : Addr → PyData → Prop := fun D z => (D = C0 ∧ z = kCount) ∨ (D = C1 ∧ z = kHouse) ∨ (D = C2 ∧ z = kRow) ∨ (D = C3 ∧ z = kWritten)
section
local macro_rules | `(tactic| walk_at "dv own") => `(tactic| first
  | (refine' de_isE (b := true) ?h1 ?h2 ?h3 ?h4 ?h5 ?h6 ?h7 ?h8 ?h9; (case h1 => rfl); (case h2 => rfl); (case h3 => walk_at "dv vis"); (case h4 => assumption); (case h5 => exact List.mem_cons_self); (case h6 => assumption); (case h7 => assumption); (case h8 => assumption); (case h9 => assumption))
  | (refine' de_isE (b := false) ?h1 ?h2 ?h3 ?h4 ?h5 ?h6 ?h7 ?h8 ?h9; (case h1 => rfl); (case h2 => rfl); (case h3 => walk_at "dv vis"); (case h4 => assumption); (case h5 => exact List.mem_cons_self); (case h6 => assumption); (case h7 => assumption); (case h8 => assumption); (case h9 => assumption))
  | (refine' de_isEB ?h1 ?h2 ?h3 ?h4 ?h5 ?h6 ?h7 ?h8 ?h9 ?h10; (case h1 => rfl); (case h2 => rfl); (case h3 => walk_at "dv vis"); (case h4 => assumption); (case h5 => exact List.mem_cons_self); (case h6 => assumption); (case h7 => assumption); (case h8 => assumption); (case h9 => rfl); (case h10 => assumption))
  | (refine' de_countB (bs := [true, false, false, false, false, false, false, false]) (k := true) ?h1 ?h2; (case h1 => exact de_nm (by rfl) (by rfl) (by walk_at "dv vis")); (case h2 => walk_at "dv de"))
  | (refine' de_indexB (bs := [true, false, false, false, false, false, false, false]) (k := true) (j := 0) ?h1 ?h2 ?h3 ?h4; (case h1 => exact de_nm (by rfl) (by rfl) (by walk_at "dv vis")); (case h2 => walk_at "dv de"); (case h3 => rfl); (case h4 => intro m hm; first | exact absurd hm (Nat.not_lt_zero m) | (revert hm; revert m; decide))))
theorem bd_kind0 {f C : Addr} {fd : FuncData} (F : Fun K "_law_kind" "_law_kind" s_kind f fd) (bl : Bl mg) (kd : Kd K mg C 0) (cdv : Value) (A : Around) (outer : List Env) (s : Shared) (H : Hp) (E : XK) (q : Addr × Obj)
    (hu : (A.deeper (envOfC "_law_kind" (defScope s_kind) s.heap.objs.size f cdv)).units + 128 < cLine) (hz : L2N.Zn (.ref C) none q.2) (hf : ∃ vs, q.2.data = .fields vs) :
    DB (frHot P w K mg base ["_law_error", "_law_words", "_law_found"] "_law_kind" (defScope s_kind) f cdv A outer s H E q hu bl sc_kind.nd) (.rf q.1 :: List.replicate 2 .un) (defBody s_kind) (.ret kCount) := by
  obtain ⟨ex, ⟨D1, m1, k1⟩, ⟨D2, m2, k2⟩, ⟨D3, m3, k3⟩, ⟨D4, m4, k4⟩, ⟨D5, m5, k5⟩, ⟨D6, m6, k6⟩, ⟨D7, m7, k7⟩, ⟨D8, m8, k8⟩, kv, mv⟩ := kd
  simp only [show ((0 : Nat) == 0) = true from rfl, show ((0 : Nat) == 1) = false from rfl, show ((0 : Nat) == 2) = false from rfl, show ((0 : Nat) == 3) = false from rfl, show ((0 : Nat) == 4) = false from rfl, show ((0 : Nat) == 5) = false from rfl, show ((0 : Nat) == 6) = false from rfl, show ((0 : Nat) == 7) = false from rfl] at k1 k2 k3 k4 k5 k6 k7 k8
  have hz' : Zc (.ref C) none q.2 := hz.zc
  walk_at "dv as"
  walk_at "dv as"
  walk_at "dv as"
  walk_at "dv as"
  walk_at "dv db"
end
section
local macro_rules | `(tactic| walk_at "dv own") => `(tactic| first
  | (refine' de_isE (b := true) ?h1 ?h2 ?h3 ?h4 ?h5 ?h6 ?h7 ?h8 ?h9; (case h1 => rfl); (case h2 => rfl); (case h3 => walk_at "dv vis"); (case h4 => assumption); (case h5 => exact List.mem_cons_self); (case h6 => assumption); (case h7 => assumption); (case h8 => assumption); (case h9 => assumption))
  | (refine' de_isE (b := false) ?h1 ?h2 ?h3 ?h4 ?h5 ?h6 ?h7 ?h8 ?h9; (case h1 => rfl); (case h2 => rfl); (case h3 => walk_at "dv vis"); (case h4 => assumption); (case h5 => exact List.mem_cons_self); (case h6 => assumption); (case h7 => assumption); (case h8 => assumption); (case h9 => assumption))
  | (refine' de_isEB ?h1 ?h2 ?h3 ?h4 ?h5 ?h6 ?h7 ?h8 ?h9 ?h10; (case h1 => rfl); (case h2 => rfl); (case h3 => walk_at "dv vis"); (case h4 => assumption); (case h5 => exact List.mem_cons_self); (case h6 => assumption); (case h7 => assumption); (case h8 => assumption); (case h9 => rfl); (case h10 => assumption))
  | (refine' de_countB (bs := [false, true, false, false, false, false, false, false]) (k := true) ?h1 ?h2; (case h1 => exact de_nm (by rfl) (by rfl) (by walk_at "dv vis")); (case h2 => walk_at "dv de"))
  | (refine' de_indexB (bs := [false, true, false, false, false, false, false, false]) (k := true) (j := 1) ?h1 ?h2 ?h3 ?h4; (case h1 => exact de_nm (by rfl) (by rfl) (by walk_at "dv vis")); (case h2 => walk_at "dv de"); (case h3 => rfl); (case h4 => intro m hm; first | exact absurd hm (Nat.not_lt_zero m) | (revert hm; revert m; decide))))
theorem bd_kind1 {f C : Addr} {fd : FuncData} (F : Fun K "_law_kind" "_law_kind" s_kind f fd) (bl : Bl mg) (kd : Kd K mg C 1) (cdv : Value) (A : Around) (outer : List Env) (s : Shared) (H : Hp) (E : XK) (q : Addr × Obj)
    (hu : (A.deeper (envOfC "_law_kind" (defScope s_kind) s.heap.objs.size f cdv)).units + 128 < cLine) (hz : L2N.Zn (.ref C) none q.2) (hf : ∃ vs, q.2.data = .fields vs) :
    DB (frHot P w K mg base ["_law_error", "_law_words", "_law_found"] "_law_kind" (defScope s_kind) f cdv A outer s H E q hu bl sc_kind.nd) (.rf q.1 :: List.replicate 2 .un) (defBody s_kind) (.ret kHouse) := by
  obtain ⟨ex, ⟨D1, m1, k1⟩, ⟨D2, m2, k2⟩, ⟨D3, m3, k3⟩, ⟨D4, m4, k4⟩, ⟨D5, m5, k5⟩, ⟨D6, m6, k6⟩, ⟨D7, m7, k7⟩, ⟨D8, m8, k8⟩, kv, mv⟩ := kd
  simp only [show ((1 : Nat) == 0) = false from rfl, show ((1 : Nat) == 1) = true from rfl, show ((1 : Nat) == 2) = false from rfl, show ((1 : Nat) == 3) = false from rfl, show ((1 : Nat) == 4) = false from rfl, show ((1 : Nat) == 5) = false from rfl, show ((1 : Nat) == 6) = false from rfl, show ((1 : Nat) == 7) = false from rfl] at k1 k2 k3 k4 k5 k6 k7 k8
  have hz' : Zc (.ref C) none q.2 := hz.zc
  walk_at "dv as"
  walk_at "dv as"
  walk_at "dv as"
  walk_at "dv as"
  walk_at "dv db"
end
section
local macro_rules | `(tactic| walk_at "dv own") => `(tactic| first
  | (refine' de_isE (b := true) ?h1 ?h2 ?h3 ?h4 ?h5 ?h6 ?h7 ?h8 ?h9; (case h1 => rfl); (case h2 => rfl); (case h3 => walk_at "dv vis"); (case h4 => assumption); (case h5 => exact List.mem_cons_self); (case h6 => assumption); (case h7 => assumption); (case h8 => assumption); (case h9 => assumption))
  | (refine' de_isE (b := false) ?h1 ?h2 ?h3 ?h4 ?h5 ?h6 ?h7 ?h8 ?h9; (case h1 => rfl); (case h2 => rfl); (case h3 => walk_at "dv vis"); (case h4 => assumption); (case h5 => exact List.mem_cons_self); (case h6 => assumption); (case h7 => assumption); (case h8 => assumption); (case h9 => assumption))
  | (refine' de_isEB ?h1 ?h2 ?h3 ?h4 ?h5 ?h6 ?h7 ?h8 ?h9 ?h10; (case h1 => rfl); (case h2 => rfl); (case h3 => walk_at "dv vis"); (case h4 => assumption); (case h5 => exact List.mem_cons_self); (case h6 => assumption); (case h7 => assumption); (case h8 => assumption); (case h9 => rfl); (case h10 => assumption))
  | (refine' de_countB (bs := [false, false, true, false, false, false, false, false]) (k := true) ?h1 ?h2; (case h1 => exact de_nm (by rfl) (by rfl) (by walk_at "dv vis")); (case h2 => walk_at "dv de"))
  | (refine' de_indexB (bs := [false, false, true, false, false, false, false, false]) (k := true) (j := 2) ?h1 ?h2 ?h3 ?h4; (case h1 => exact de_nm (by rfl) (by rfl) (by walk_at "dv vis")); (case h2 => walk_at "dv de"); (case h3 => rfl); (case h4 => intro m hm; first | exact absurd hm (Nat.not_lt_zero m) | (revert hm; revert m; decide))))
theorem bd_kind2 {f C : Addr} {fd : FuncData} (F : Fun K "_law_kind" "_law_kind" s_kind f fd) (bl : Bl mg) (kd : Kd K mg C 2) (cdv : Value) (A : Around) (outer : List Env) (s : Shared) (H : Hp) (E : XK) (q : Addr × Obj)
    (hu : (A.deeper (envOfC "_law_kind" (defScope s_kind) s.heap.objs.size f cdv)).units + 128 < cLine) (hz : L2N.Zn (.ref C) none q.2) (hf : ∃ vs, q.2.data = .fields vs) :
    DB (frHot P w K mg base ["_law_error", "_law_words", "_law_found"] "_law_kind" (defScope s_kind) f cdv A outer s H E q hu bl sc_kind.nd) (.rf q.1 :: List.replicate 2 .un) (defBody s_kind) (.ret kRow) := by
  obtain ⟨ex, ⟨D1, m1, k1⟩, ⟨D2, m2, k2⟩, ⟨D3, m3, k3⟩, ⟨D4, m4, k4⟩, ⟨D5, m5, k5⟩, ⟨D6, m6, k6⟩, ⟨D7, m7, k7⟩, ⟨D8, m8, k8⟩, kv, mv⟩ := kd
  simp only [show ((2 : Nat) == 0) = false from rfl, show ((2 : Nat) == 1) = false from rfl, show ((2 : Nat) == 2) = true from rfl, show ((2 : Nat) == 3) = false from rfl, show ((2 : Nat) == 4) = false from rfl, show ((2 : Nat) == 5) = false from rfl, show ((2 : Nat) == 6) = false from rfl, show ((2 : Nat) == 7) = false from rfl] at k1 k2 k3 k4 k5 k6 k7 k8
  have hz' : Zc (.ref C) none q.2 := hz.zc
  walk_at "dv as"
  walk_at "dv as"
  walk_at "dv as"
  walk_at "dv as"
  walk_at "dv db"
end
section
local macro_rules | `(tactic| walk_at "dv own") => `(tactic| first
  | (refine' de_isE (b := true) ?h1 ?h2 ?h3 ?h4 ?h5 ?h6 ?h7 ?h8 ?h9; (case h1 => rfl); (case h2 => rfl); (case h3 => walk_at "dv vis"); (case h4 => assumption); (case h5 => exact List.mem_cons_self); (case h6 => assumption); (case h7 => assumption); (case h8 => assumption); (case h9 => assumption))
  | (refine' de_isE (b := false) ?h1 ?h2 ?h3 ?h4 ?h5 ?h6 ?h7 ?h8 ?h9; (case h1 => rfl); (case h2 => rfl); (case h3 => walk_at "dv vis"); (case h4 => assumption); (case h5 => exact List.mem_cons_self); (case h6 => assumption); (case h7 => assumption); (case h8 => assumption); (case h9 => assumption))
  | (refine' de_isEB ?h1 ?h2 ?h3 ?h4 ?h5 ?h6 ?h7 ?h8 ?h9 ?h10; (case h1 => rfl); (case h2 => rfl); (case h3 => walk_at "dv vis"); (case h4 => assumption); (case h5 => exact List.mem_cons_self); (case h6 => assumption); (case h7 => assumption); (case h8 => assumption); (case h9 => rfl); (case h10 => assumption))
  | (refine' de_countB (bs := [false, false, false, false, false, false, true, false]) (k := true) ?h1 ?h2; (case h1 => exact de_nm (by rfl) (by rfl) (by walk_at "dv vis")); (case h2 => walk_at "dv de"))
  | (refine' de_indexB (bs := [false, false, false, false, false, false, true, false]) (k := true) (j := 6) ?h1 ?h2 ?h3 ?h4; (case h1 => exact de_nm (by rfl) (by rfl) (by walk_at "dv vis")); (case h2 => walk_at "dv de"); (case h3 => rfl); (case h4 => intro m hm; first | exact absurd hm (Nat.not_lt_zero m) | (revert hm; revert m; decide))))
theorem bd_kind3 {f C : Addr} {fd : FuncData} (F : Fun K "_law_kind" "_law_kind" s_kind f fd) (bl : Bl mg) (kd : Kd K mg C 6) (cdv : Value) (A : Around) (outer : List Env) (s : Shared) (H : Hp) (E : XK) (q : Addr × Obj)
    (hu : (A.deeper (envOfC "_law_kind" (defScope s_kind) s.heap.objs.size f cdv)).units + 128 < cLine) (hz : L2N.Zn (.ref C) none q.2) (hf : ∃ vs, q.2.data = .fields vs) :
    DB (frHot P w K mg base ["_law_error", "_law_words", "_law_found"] "_law_kind" (defScope s_kind) f cdv A outer s H E q hu bl sc_kind.nd) (.rf q.1 :: List.replicate 2 .un) (defBody s_kind) (.ret kWritten) := by
  obtain ⟨ex, ⟨D1, m1, k1⟩, ⟨D2, m2, k2⟩, ⟨D3, m3, k3⟩, ⟨D4, m4, k4⟩, ⟨D5, m5, k5⟩, ⟨D6, m6, k6⟩, ⟨D7, m7, k7⟩, ⟨D8, m8, k8⟩, kv, mv⟩ := kd
  simp only [show ((6 : Nat) == 0) = false from rfl, show ((6 : Nat) == 1) = false from rfl, show ((6 : Nat) == 2) = false from rfl, show ((6 : Nat) == 3) = false from rfl, show ((6 : Nat) == 4) = false from rfl, show ((6 : Nat) == 5) = false from rfl, show ((6 : Nat) == 6) = true from rfl, show ((6 : Nat) == 7) = false from rfl] at k1 k2 k3 k4 k5 k6 k7 k8
  have hz' : Zc (.ref C) none q.2 := hz.zc
  walk_at "dv as"
  walk_at "dv as"
  walk_at "dv as"
  walk_at "dv as"
  walk_at "dv db"
end
theorem ok_kind {f C0 C1 C2 C3 : Addr} {fd : FuncData} (F : Fun K "_law_kind" "_law_kind" s_kind f fd) (bl : Bl mg) (kd0 : Kd K mg C0 0) (kd1 : Kd K mg C1 1) (kd2 : Kd K mg C2 2) (kd3 : Kd K mg C3 6) : FnX P w K mg base 1 f fd ["_law_error"] (spK K (kRel C0 C1 C2 C3)) := by
  refine fnK F sc_kind bl fun cdv A outer s H E q hu D z hz hf hd => ?_
  rcases hd with ⟨rfl, rfl⟩ | ⟨rfl, rfl⟩ | ⟨rfl, rfl⟩ | ⟨rfl, rfl⟩
  · exact bd_kind0 F bl kd0 cdv A outer s H E q hu hz hf
  · exact bd_kind1 F bl kd1 cdv A outer s H E q hu hz hf
  · exact bd_kind2 F bl kd2 cdv A outer s H E q hu hz hf
  · exact bd_kind3 F bl kd3 cdv A outer s H E q hu hz hf
end
section
theorem row_leafF (b k : Int) : leafOk (.str (rowF b k)) := leafOk_row (row_ok b k)
def g_made : Gm := fun xs M R W => ∃ x y, xs = [.da x, .da y] ∧ M = [] ∧ ((∃ n own : Int, x = .int n ∧ y = .int own ∧ 1 ≤ n ∧ n ≤ 12 ∧ 0 ≤ own ∧ own < n ∧ R (.da (.tuple [])) []) ∨ (isAmong x 1 12 = false ∧ R (.da kCount) []) ∨ (∃ n : Int, x = .int n ∧ 1 ≤ n ∧ n ≤ 12 ∧ isAmong y 0 (n - 1) = false ∧ R (.da kHouse) []))
def g_asked (C PT : Addr) : Gm := fun xs M R W => ∃ a s n x, xs = [.rf a.p, .da (.int n), .da x] ∧ M = hM a s ∧ a.C = C ∧ a.P = PT ∧ s.Ok 100000 ∧ leafOk x ∧ (0 ≤ s.n ∧ s.n ≤ 1000 ∧ 0 ≤ s.calls ∧ s.calls ≤ 1000) ∧
  ((n = 0 ∧ isRow x = false ∧ R (.da kRow) (hM a s)) ∨ (n = 1 ∧ (∀ i, x = .int i → 0 ≤ i → i ≤ 9999 → getK s.written i = none) ∧ R (.da kWritten) (hM a s)))
theorem sc_made : FnScope ["_law_count", "_law_own", "_law_error"] ["_law_count", "_law_own"] (defScope s_made) := ⟨rfl, rfl, rfl, by decide +kernel, rfl, by decide +kernel, by decide +kernel⟩
theorem ok_made {f fk C CB CH CR CN S : Addr} {fd fdk : FuncData} (F : Fun K "_law_made" "_law_made" s_made f fd) (bl : Bl mg) (pnew : ClsM P w K mg base "House" C 5 (g_hinit C CB CH)) (G : FnX P w K mg base 1 fk fdk ["_law_error"] (spK K (kRel CB CH CR CN))) (mk : mg "_law_kind" = some (.ref fk)) (kk : PySem.W.keepIn K (.ref fk) = true) (bk : Binds K fdk ["_law_error"] []) (mS : mg "HouseError" = some (.ref S)) (hx1 : PySem.W.exmOne K (.ref CB) (.ref S) = some true) (hx2 : PySem.W.exmOne K (.ref CH) (.ref S) = some true) : FnOk P w K mg base (L2N.CX P w) 7 f fd ["_law_count", "_law_own"] (spM K g_made) := by
  refine fnM F sc_made bl (fun xs M R W ⟨_, _, e, _⟩ => by rw [e]; rfl) fun cdv A outer s0 H E hu hr xs M R W h => ?_
  obtain ⟨x, y, rfl, rfl, h⟩ := h
  refine' dy_tryAs (n := "_law_error") (i := 2) (c := .ref S) (V := fun C' M' => M' = [] ∧ ((C' = CB ∧ R (.da kCount) []) ∨ (C' = CH ∧ R (.da kHouse) []))) rfl rfl rfl rfl ⟨rfl, by decide, .inl mS⟩ ?hb ?hs
  (case hb =>
    intro W' pn xe tk po
    refine' dy_expr (ye_make pnew (Room.mono hr (by decide)) (ya_cons (x := .da x) (se_de ?a1) (ya_cons (x := .da y) (se_de ?a2) (ya_nil fun p => callOk_all (.refl _) ⟨p, x, y, rfl, rfl, ?a3⟩))))
    (case a1 => exact de_nm (by rfl) (by rfl) (by walk_at "dv vis"))
    (case a2 => exact de_nm (by rfl) (by rfl) (by walk_at "dv vis"))
    (case a3 =>
      rcases h with ⟨n, own, rfl, rfl, h1, h2, h3, h4, hR⟩ | ⟨h1, hR⟩ | ⟨n, rfl, h1, h2, h3, hR⟩
      · refine .inl ⟨n, own, rfl, rfl, h1, h2, h3, h4, fun k m w0 nm PT => ⟨rfl, ?_⟩⟩
        refine dy_nil (DY.drop (DY.drop (DY.drop (DY.drop (DY.drop (dy_liftR (ds_ret ?b1) hR))))))
        (case b1 => walk_at "dv de")
      · exact .inr (.inl ⟨h1, rfl, .inl ⟨rfl, hR⟩⟩)
      · exact .inr (.inr ⟨n, rfl, h1, h2, h3, rfl, .inr ⟨rfl, hR⟩⟩)))
  (case hs =>
    rintro C' M' ⟨rfl, ⟨rfl, hR⟩ | ⟨rfl, hR⟩⟩
    · refine ⟨hx1, kCount, hR, fun a0 oe pn hz hf => ?_⟩
      refine' db_seq (ds_ret ?hp) aft_ret
      (case hp =>
        obtain ⟨vs, hv⟩ := hf
        refine' de_callK (q := (a0, oe)) (n := "_law_error") (C := C') G ?b1p ?b2p ?b3p mk kk bk ?b4p ?b5p ?b6p hz ⟨vs, hv⟩ (.inl ⟨rfl, rfl⟩)
        (case b1p => exact ⟨(Room.mono hr (by decide : 1 ≤ 6)).dp, (Room.mono hr (by decide : 1 ≤ 6)).un⟩)
        (case b2p => exact ⟨rfl, vs, hv, hz.2.2 vs hv⟩)
        (case b3p => exact List.mem_cons_self)
        (case b4p => rfl)
        (case b5p => rfl)
        (case b6p => walk_at "dv vis"))
    · refine ⟨hx2, kHouse, hR, fun a0 oe pn hz hf => ?_⟩
      refine' db_seq (ds_ret ?hq) aft_ret
      (case hq =>
        obtain ⟨vs, hv⟩ := hf
        refine' de_callK (q := (a0, oe)) (n := "_law_error") (C := C') G ?b1q ?b2q ?b3q mk kk bk ?b4q ?b5q ?b6q hz ⟨vs, hv⟩ (.inr (.inl ⟨rfl, rfl⟩))
        (case b1q => exact ⟨(Room.mono hr (by decide : 1 ≤ 6)).dp, (Room.mono hr (by decide : 1 ≤ 6)).un⟩)
        (case b2q => exact ⟨rfl, vs, hv, hz.2.2 vs hv⟩)
        (case b3q => exact List.mem_cons_self)
        (case b4q => rfl)
        (case b5q => rfl)
        (case b6q => walk_at "dv vis")))
theorem sc_asked : FnScope ["_law_house", "_law_which", "_law_thing", "_law_error"] ["_law_house", "_law_which", "_law_thing"] (defScope s_asked) := ⟨rfl, rfl, rfl, by decide +kernel, rfl, by decide +kernel, by decide +kernel⟩
theorem ok_asked {f fk C PT CB CH CR CN S : Addr} {fd fdk : FuncData} (F : Fun K "_law_asked" "_law_asked" s_asked f fd) (bl : Bl mg) (pcall : MtdM P w K mg base C "call" 7 (g_hcall C PT CR)) (pback : MtdM P w K mg base C "backing" 2 (g_hback C CN)) (G : FnX P w K mg base 1 fk fdk ["_law_error"] (spK K (kRel CB CH CR CN))) (mk : mg "_law_kind" = some (.ref fk)) (kk : PySem.W.keepIn K (.ref fk) = true) (bk : Binds K fdk ["_law_error"] []) (mS : mg "HouseError" = some (.ref S)) (hx3 : PySem.W.exmOne K (.ref CR) (.ref S) = some true) (hx4 : PySem.W.exmOne K (.ref CN) (.ref S) = some true) : FnOk P w K mg base (L2N.CX P w) 9 f fd ["_law_house", "_law_which", "_law_thing"] (spM K (g_asked C PT)) := by
  refine fnM F sc_asked bl (fun xs M R W ⟨_, _, _, _, e, _⟩ => by rw [e]; rfl) fun cdv A outer s0 H E hu hr xs M R W h => ?_
  obtain ⟨a, s, n, x, rfl, rfl, rfl, rfl, ok, hl, hb, h⟩ := h
  refine' dy_tryAs (n := "_law_error") (i := 3) (c := .ref S) (V := fun C' M' => M' = hM a s ∧ ((C' = CR ∧ R (.da kRow) (hM a s)) ∨ (C' = CN ∧ R (.da kWritten) (hM a s)))) rfl rfl rfl rfl ⟨rfl, by decide, .inl mS⟩ ?hb ?hs
  (case hb =>
    intro W' pn xe tk po
    rcases h with ⟨rfl, hrow, hR⟩ | ⟨rfl, hno, hR⟩
    · refine' dy_ifT (x := true) ?a1 rfl (dy_expr (ye_meth pcall (Room.mono hr (by decide)) ?a2 ?a3 ?a4 (ya_cons (x := .da x) (se_de ?a5) (ya_nil (callOk_all (.refl _) ⟨a, s, x, rfl, rfl, rfl, rfl, ok, hl, hb, .inr ⟨hrow, rfl, .inl ⟨rfl, hR⟩⟩⟩)))))
      (case a1 =>
        refine' dt_cmp ?b1 ?b2 (bd_eqI (i := 0) (j := 0))
        (case b1 => exact de_nm (by rfl) (by rfl) (by walk_at "dv vis"))
        (case b2 => exact de_int))
      (case a2 => walk_at "dv se")
      (case a3 => walk_at "dv mem")
      (case a4 => rfl)
      (case a5 => exact de_nm (by rfl) (by rfl) (by walk_at "dv vis"))
    · refine' dy_ifF (x := false) ?c1 rfl (dy_expr (ye_meth pback (Room.mono hr (by decide)) ?c2 ?c3 ?c4 (ya_cons (x := .da x) (se_de ?c5) (ya_nil (callOk_of (Mc := houseM a s) (Mr := [(a.P, .t lamH)]) (.refl _) ⟨a, s, x, rfl, rfl, rfl, .inr ⟨hno, rfl, .inr ⟨rfl, hR⟩⟩⟩)))))
      (case c1 =>
        refine' dt_cmp ?d1 ?d2 (bd_eqI (i := 1) (j := 0))
        (case d1 => exact de_nm (by rfl) (by rfl) (by walk_at "dv vis"))
        (case d2 => exact de_int))
      (case c2 => walk_at "dv se")
      (case c3 => walk_at "dv mem")
      (case c4 => rfl)
      (case c5 => exact de_nm (by rfl) (by rfl) (by walk_at "dv vis")))
  (case hs =>
    rintro C' M' ⟨rfl, ⟨rfl, hR⟩ | ⟨rfl, hR⟩⟩
    · refine ⟨hx3, kRow, hR, fun a0 oe pn hz hf => ?_⟩
      refine' db_seq (ds_ret ?hp) aft_ret
      (case hp =>
        obtain ⟨vs, hv⟩ := hf
        refine' de_callK (q := (a0, oe)) (n := "_law_error") (C := C') G ?b1p ?b2p ?b3p mk kk bk ?b4p ?b5p ?b6p hz ⟨vs, hv⟩ (.inr (.inr (.inl ⟨rfl, rfl⟩)))
        (case b1p => exact ⟨(Room.mono hr (by decide : 1 ≤ 8)).dp, (Room.mono hr (by decide : 1 ≤ 8)).un⟩)
        (case b2p => exact ⟨rfl, vs, hv, hz.2.2 vs hv⟩)
        (case b3p => exact List.mem_cons_self)
        (case b4p => rfl)
        (case b5p => rfl)
        (case b6p => walk_at "dv vis"))
    · refine ⟨hx4, kWritten, hR, fun a0 oe pn hz hf => ?_⟩
      refine' db_seq (ds_ret ?hq) aft_ret
      (case hq =>
        obtain ⟨vs, hv⟩ := hf
        refine' de_callK (q := (a0, oe)) (n := "_law_error") (C := C') G ?b1q ?b2q ?b3q mk kk bk ?b4q ?b5q ?b6q hz ⟨vs, hv⟩ (.inr (.inr (.inr ⟨rfl, rfl⟩)))
        (case b1q => exact ⟨(Room.mono hr (by decide : 1 ≤ 8)).dp, (Room.mono hr (by decide : 1 ≤ 8)).un⟩)
        (case b2q => exact ⟨rfl, vs, hv, hz.2.2 vs hv⟩)
        (case b3q => exact List.mem_cons_self)
        (case b4q => rfl)
        (case b5q => rfl)
        (case b6q => walk_at "dv vis")))
end
section
def oddL (n z : Int) : List PyData := [.int (-1), .int n, .bool true, .bool false, .none, .str "0", .list [.int 0], .dict [], .int (13 + z % 10 ^ (30 : Int).toNat)]
def badL (z : Int) : List PyData := [.int 0, .int 13, .bool true, .bool false, .none, .str "3", .list [.int 3], .int (-1 - z % 10 ^ (30 : Int).toNat), .int (13 + z % 10 ^ (30 : Int).toNat)]
theorem nine {P : Int → Prop} (h : P 0 ∧ P 1 ∧ P 2 ∧ P 3 ∧ P 4 ∧ P 5 ∧ P 6 ∧ P 7 ∧ P 8) {i : Int} (h0 : 0 ≤ i) (h1 : i < 9) : P i := by
  obtain ⟨a0, a1, a2, a3, a4, a5, a6, a7, a8⟩ := h
  have hs : i = 0 ∨ i = 1 ∨ i = 2 ∨ i = 3 ∨ i = 4 ∨ i = 5 ∨ i = 6 ∨ i = 7 ∨ i = 8 := by omega
  rcases hs with e | e | e | e | e | e | e | e | e <;> subst e <;> assumption
theorem odd_at {n z i : Int} (h1 : 1 ≤ n) (h2 : n ≤ 12) (i0 : 0 ≤ i) (i1 : i < 9) : ∃ y, atI (oddL n z) i = some y ∧ isAmong y 0 (n - 1) = false := by
  have pos : (0 : Int) ≤ z % 10 ^ (30 : Int).toNat := Int.emod_nonneg _ (by decide)
  generalize hb : z % 10 ^ (30 : Int).toNat = big at pos
  have hL : oddL n z = [.int (-1), .int n, .bool true, .bool false, .none, .str "0", .list [.int 0], .dict [], .int (13 + big)] := by unfold oddL; rw [hb]
  rw [hL]
  refine nine (P := fun i => ∃ y, atI _ i = some y ∧ isAmong y 0 (n - 1) = false) ⟨⟨_, rfl, rfl⟩, ⟨_, rfl, ?_⟩, ⟨_, rfl, rfl⟩, ⟨_, rfl, rfl⟩, ⟨_, rfl, rfl⟩, ⟨_, rfl, rfl⟩, ⟨_, rfl, rfl⟩, ⟨_, rfl, rfl⟩, ⟨_, rfl, ?_⟩⟩ i0 i1
  · have : ¬ n ≤ n - 1 := by omega
    simp [isAmong, this]
  · have : ¬ 13 + big ≤ n - 1 := by omega
    simp [isAmong, this]
theorem bad_at {z i : Int} (i0 : 0 ≤ i) (i1 : i < 9) : ∃ y, atI (badL z) i = some y ∧ isAmong y 1 12 = false := by
  have pos : (0 : Int) ≤ z % 10 ^ (30 : Int).toNat := Int.emod_nonneg _ (by decide)
  generalize hb : z % 10 ^ (30 : Int).toNat = big at pos
  have hL : badL z = [.int 0, .int 13, .bool true, .bool false, .none, .str "3", .list [.int 3], .int (-1 - big), .int (13 + big)] := by unfold badL; rw [hb]
  rw [hL]
  refine nine (P := fun i => ∃ y, atI _ i = some y ∧ isAmong y 1 12 = false) ⟨⟨_, rfl, rfl⟩, ⟨_, rfl, rfl⟩, ⟨_, rfl, rfl⟩, ⟨_, rfl, rfl⟩, ⟨_, rfl, rfl⟩, ⟨_, rfl, rfl⟩, ⟨_, rfl, rfl⟩, ⟨_, rfl, ?_⟩, ⟨_, rfl, ?_⟩⟩ i0 i1
  · have : ¬ 1 ≤ -1 - big := by omega
    simp [isAmong, this]
  · have : ¬ 13 + big ≤ 12 := by omega
    simp [isAmong, this]
def rowsL (r : Str) (p c : Int) : List PyData := [.str (cutS r none (some p) ++ signF (c / 81) ++ cutS r (some p) none), .str "", .str "abcdefghi", .none, .int 5, .list [.str r], .bool true, .dict [], .tuple [.str "a"]]
theorem rows_at {r : Str} {p c i : Int} (hr : rowB r = true) (i0 : 0 ≤ i) (i1 : i < 9) : ∃ y, atI (rowsL r p c) i = some y ∧ leafOk y ∧ isRow y = false := by
  have hx : ∀ l u, tx 8 (cutS r l u) := fun l u => tx_cut ⟨rowB_len hr, strOk_row hr⟩
  refine nine (P := fun i => ∃ y, atI (rowsL r p c) i = some y ∧ leafOk y ∧ isRow y = false) ⟨⟨_, rfl, tx_leaf (tx_app (tx_app (hx _ _) (m := 1) ⟨Nat.le_refl 1, signF_ok _⟩) (hx _ _)) (by decide), put_bad _ _ _⟩, ⟨_, rfl, ⟨by decide, by decide +kernel⟩, by decide +kernel⟩, ⟨_, rfl, ⟨by decide, by decide +kernel⟩, by decide +kernel⟩, ⟨_, rfl, trivial, rfl⟩, ⟨_, rfl, trivial, rfl⟩, ⟨_, rfl, trivial, rfl⟩, ⟨_, rfl, trivial, rfl⟩, ⟨_, rfl, trivial, rfl⟩, ⟨_, rfl, trivial, rfl⟩⟩ i0 i1
def numsL (c : Int) : List PyData := [.int (2 + c / 9 % 9), .int (-1), .bool true, .bool false, .none, .str "0", .list [.int 0], .dict [], .int 10000]
theorem nums_at {c i : Int} (i0 : 0 ≤ i) (i1 : i < 9) : ∃ y, atI (numsL c) i = some y ∧ leafOk y ∧ ∀ j, y = .int j → 0 ≤ j → j ≤ 9999 → 2 ≤ j :=
  nine (P := fun i => ∃ y, atI (numsL c) i = some y ∧ leafOk y ∧ ∀ j, y = .int j → 0 ≤ j → j ≤ 9999 → 2 ≤ j) ⟨⟨_, rfl, trivial, fun j e _ _ => by cases e; omega⟩, ⟨_, rfl, trivial, fun j e h _ => by cases e; omega⟩, ⟨_, rfl, trivial, fun j e _ _ => by cases e⟩, ⟨_, rfl, trivial, fun j e _ _ => by cases e⟩, ⟨_, rfl, trivial, fun j e _ _ => by cases e⟩, ⟨_, rfl, ⟨by decide, by decide +kernel⟩, fun j e _ _ => by cases e⟩, ⟨_, rfl, trivial, fun j e _ _ => by cases e⟩, ⟨_, rfl, trivial, fun j e _ _ => by cases e⟩, ⟨_, rfl, trivial, fun j e _ h => by cases e; omega⟩⟩ i0 i1
structure Inv7 (s : Hs) (i : Nat) : Prop where
  n : s.n = 4
  own : s.own = 1
  calls : s.calls = 0
  ok : s.Ok (4 * i)
  low : ∀ e ∈ s.written, e.1 < 2
  len : s.written.length ≤ i
theorem inv7_hear {s : Hs} {i : Nat} {x : Wd} (h : Inv7 s i) (hx : x.ok) (hm : x.m < 2) (hh : x.h ≠ 1) : HearOk s x ∧ Inv7 (hearF s x).1 (i + 1) := by
  have ho : HearOk s x := ⟨hx, .inr fun z => hh (z.2.trans h.own)⟩
  obtain ⟨s1, s2, _, s4⟩ := hear_same s x
  refine ⟨ho, ⟨s1.trans h.n, s2.trans h.own, s4.trans h.calls, (hear_ok h.ok ho).up (by omega), fun e he => ?_, Nat.le_trans (hear_wlen s x) (Nat.succ_le_succ h.len)⟩⟩
  rcases hear_written s x with w | ⟨y, w⟩
  · rw [w] at he; exact h.low e he
  · rw [w] at he
    rcases List.mem_append.mp he with z | z
    · exact h.low e z
    · rw [List.mem_singleton.mp z]; exact hm
theorem not_written {s : Hs} {i : Nat} (h : Inv7 s i) {j : Int} (hj : 2 ≤ j) : getK s.written j = none := by
  cases e : getK s.written j with
  | none => rfl
  | some y =>
    have := h.low _ (getK_mem e)
    omega
end
section
theorem sc_law : FnScope ["_law_script", "_law_first", "_law_count", "_law_odd", "_law_bad", "_law_house", "_law_base", "_law_cell", "_law_kept", "_law_row_here", "_law_at_here", "_law_number"] ["_law_script"] (defScope s_law) := ⟨rfl, rfl, rfl, by decide +kernel, rfl, by decide +kernel, by decide +kernel⟩
theorem bd_neT0 {X : Cx} (hu : X.A.units + 128 < cLine) : BinD X (compareOp .NotEq) (.tuple []) (.tuple []) (.bool false) := by
  rw [show false = !PyData.eqv (.tuple []) (.tuple []) from by decide +kernel]
  exact bd_neD hu (by decide +kernel) (by decide +kernel)
theorem bd_teaW {X : Cx} (hu : X.A.units + 128 < cLine) : BinD X (compareOp .Eq) (wd ⟨"say", 1 + 4 * 0, "tea", 1⟩) (wd ⟨"say", 1, "tea", 1⟩) (.bool true) := by
  rw [show true = PyData.eqv (wd ⟨"say", 1 + 4 * 0, "tea", 1⟩) (wd ⟨"say", 1, "tea", 1⟩) from by decide +kernel]
  exact bd_eqD hu (by decide +kernel) (by decide +kernel)
local macro_rules | `(tactic| walk_at "dv g") => `(tactic| first | exact g_at_i (by decide) | exact g_rowf_i | exact g_sign_i)
theorem ok_law {f C PT CB CH CR : Addr} {fd : FuncData} (F : Fun K "law" "law" s_law f fd) (bl : Bl mg) (plat : Pfn P w K mg base "_law_at" 1 g_at) (psign : Pfn P w K mg base "_law_sign" 1 g_sign) (prow : Pfn P w K mg base "_law_row" 1 g_rowf) (pmade : PfmM P w K mg base "_law_made" 7 g_made) (pasked : PfmM P w K mg base "_law_asked" 9 (g_asked C PT))
    (pnew : ClsM P w K mg base "House" C 5 (g_hinit C CB CH)) (pcall : MtdM P w K mg base C "call" 7 (g_hcall C PT CR)) (phear : MtdM P w K mg base C "hear" 6 (g_hear C PT)) (pled : MtdM P w K mg base C "ledger" 1 (g_ledger C)) (pcau : MtdM P w K mg base C "caught" 1 (g_caught C)) : FnOk P w K mg base (L2N.CX P w) 10 f fd ["_law_script"] (spM K (gLawT PT lamH)) := by
  refine fnM F sc_law bl (fun xs M R W ⟨_, e, _⟩ => by rw [e]; rfl) fun cdv A outer s0 H E hu hr xs M R W h => ?_
  obtain ⟨ns, rfl, hns, rfl, hR⟩ := h
  obtain ⟨z, hz, z0⟩ : ∃ z, (if atL ns 0 < 0 then -atL ns 0 else atL ns 0) = z ∧ 0 ≤ z := ⟨_, rfl, by split <;> omega⟩
  obtain ⟨n, hn, n1, n2⟩ : ∃ n, 1 + z % 12 = n ∧ 1 ≤ n ∧ n ≤ 12 := ⟨_, rfl, by omega, by omega⟩
  obtain ⟨yo, hyo, hyo2⟩ := odd_at (n := n) (z := z) (i := z / 12 % 9) n1 n2 (by omega) (by omega)
  obtain ⟨yb, hyb, hyb2⟩ := bad_at (z := z) (i := z / 108 % 9) (by omega) (by omega)
  obtain ⟨o1, ho1, o10, o11⟩ : ∃ o1, z / 7 % n = o1 ∧ 0 ≤ o1 ∧ o1 < n := ⟨_, rfl, Int.emod_nonneg _ (by omega), Int.emod_lt_of_pos _ (by omega)⟩
  obtain ⟨bs, hbs⟩ : ∃ bs, atL ns 1 % 100003 = bs := ⟨_, rfl⟩
  obtain ⟨c, hc⟩ : ∃ c, atL ns 2 = c := ⟨_, rfl⟩
  obtain ⟨pl, hpl⟩ : ∃ pl, c / 9 % (((rowF bs 0).length : Int) + 1) = pl := ⟨_, rfl⟩
  obtain ⟨yr, hyr, hyr2, hyr3⟩ := rows_at (r := rowF bs 0) (p := pl) (c := c) (i := c % 9) (row_ok bs 0) (by omega) (by omega)
  obtain ⟨yn, hyn, hyn2, hyn3'⟩ := nums_at (c := c) (i := c % 9) (by omega) (by omega)
  have hlr : (rowF bs 0).length ≤ sizeLine := Nat.le_trans (rowB_len (row_ok bs 0)) (Nat.le_of_ble_eq_true rfl)
  refine' id ?start
  (case start =>
    refine' dy_lift (ds_asgN (d := .int z) ?a1 (by rfl) (by walk_at "dv loc")) ?a2
    (case a1 =>
      rw [← hz]
      walk_at "dv de")
    (case a2 =>
    refine' dy_lift (ds_asgN (d := .int n) ?b1 (by rfl) (by walk_at "dv loc")) ?b2
    (case b1 =>
      rw [← hn]
      walk_at "dv de")
    (case b2 =>
    refine' dy_lift (ds_asgN (d := yo) ?c1 (by rfl) (by walk_at "dv loc")) ?c2
    (case c1 =>
      refine' de_ix (da := .list (oddL n z)) (de_list ?c3 (Nat.le_of_ble_eq_true rfl)) ?c4 (ixOk_L hyo)
      (case c3 => unfold oddL; walk_at "dv da")
      (case c4 => walk_at "dv de"))
    (case c2 =>
    refine' dy_lift (ds_asgN (d := yb) ?d1 (by rfl) (by walk_at "dv loc")) ?d2
    (case d1 =>
      refine' de_ix (da := .list (badL z)) (de_list ?d3 (Nat.le_of_ble_eq_true rfl)) ?d4 (ixOk_L hyb)
      (case d3 => unfold badL; walk_at "dv da")
      (case d4 => walk_at "dv de"))
    (case d2 =>
    refine' dy_skipY (yt_w (yw_or (yt_cmp (ye_call pmade (Room.mono hr (by decide)) (ya_cons (x := .da yb) (se_de ?ea1) (ya_cons (x := .da yo) (se_de ?ea2) (ya_nil (callOk_of (Mc := []) (Mr := [(PT, .t lamH)]) (.refl _) ⟨yb, yo, rfl, rfl, .inr (.inl ⟨hyb2, ye_de (d := kCount) ?ea3 ⟨kCount, kCount, false, rfl, rfl, ?ea4, ?ea5⟩⟩)⟩))))))))
    (case ea1 => exact de_nm (by rfl) (by rfl) (by walk_at "dv vis"))
    (case ea2 => exact de_nm (by rfl) (by rfl) (by walk_at "dv vis"))
    (case ea3 => walk_at "dv de")
    (case ea4 => exact by rw [show false = !PyData.eqv kCount kCount from by decide +kernel]; exact bd_neD (Fr.hu _) (by decide +kernel) (by decide +kernel))
    (case ea5 =>
    refine ⟨fun q => (nomatch q), fun _ => yw_or1 ?ea6⟩
    refine' yt_cmp (ye_call pmade (Room.mono hr (by decide)) (ya_cons (x := .da yb) (se_de ?eb1) (ya_cons (x := .da (.int 0)) (se_de ?eb2) (ya_nil (callOk_of (Mc := []) (Mr := [(PT, .t lamH)]) (.refl _) ⟨yb, (.int 0), rfl, rfl, .inr (.inl ⟨hyb2, ye_de (d := kCount) ?eb3 ⟨kCount, kCount, false, rfl, rfl, ?eb4, ?eb5⟩⟩)⟩)))))
    (case eb1 => exact de_nm (by rfl) (by rfl) (by walk_at "dv vis"))
    (case eb2 => exact de_int)
    (case eb3 => walk_at "dv de")
    (case eb4 => exact by rw [show false = !PyData.eqv kCount kCount from by decide +kernel]; exact bd_neD (Fr.hu _) (by decide +kernel) (by decide +kernel))
    (case eb5 =>
    refine ⟨rfl, ?ef⟩
    refine' dy_skipY (yt_w (yw_or (yt_cmp (ye_call pmade (Room.mono hr (by decide)) (ya_cons (x := .da (.int n)) (se_de ?fa1) (ya_cons (x := .da (.int o1)) (se_de ?fa2) (ya_nil (callOk_of (Mc := []) (Mr := [(PT, .t lamH)]) (.refl _) ⟨(.int n), (.int o1), rfl, rfl, .inl ⟨n, o1, rfl, rfl, n1, n2, o10, o11, ye_de (d := (.tuple [])) ?fa3 ⟨(.tuple []), (.tuple []), false, rfl, rfl, ?fa4, ?fa5⟩⟩⟩))))))))
    (case fa1 => exact de_nm (by rfl) (by rfl) (by walk_at "dv vis"))
    (case fa2 => rw [← ho1]; walk_at "dv de")
    (case fa3 => walk_at "dv de")
    (case fa4 => exact bd_neT0 (Fr.hu _))
    (case fa5 =>
    refine ⟨fun q => (nomatch q), fun _ => yw_or1 ?fa6⟩
    refine' yt_cmp (ye_call pmade (Room.mono hr (by decide)) (ya_cons (x := .da (.int n)) (se_de ?fb1) (ya_cons (x := .da yo) (se_de ?fb2) (ya_nil (callOk_of (Mc := []) (Mr := [(PT, .t lamH)]) (.refl _) ⟨(.int n), yo, rfl, rfl, .inr (.inr ⟨n, rfl, n1, n2, hyo2, ye_de (d := kHouse) ?fb3 ⟨kHouse, kHouse, false, rfl, rfl, ?fb4, ?fb5⟩⟩)⟩)))))
    (case fb1 => exact de_nm (by rfl) (by rfl) (by walk_at "dv vis"))
    (case fb2 => exact de_nm (by rfl) (by rfl) (by walk_at "dv vis"))
    (case fb3 => walk_at "dv de")
    (case fb4 => exact by rw [show false = !PyData.eqv kHouse kHouse from by decide +kernel]; exact bd_neD (Fr.hu _) (by decide +kernel) (by decide +kernel))
    (case fb5 =>
    refine ⟨rfl, ?ff⟩
    refine' dy_asg (ye_make pnew (Room.mono hr (by decide)) (ya_cons (x := .da (.int 4)) (se_de ?g1) (ya_cons (x := .da (.int 1)) (se_de ?g2) (ya_nil fun p => callOk_of (Mc := [(p, .o C [])]) (Mr := [(PT, .t lamH)]) (.refl _) ⟨p, .int 4, .int 1, rfl, rfl, .inl ⟨4, 1, rfl, rfl, by decide, by decide, by decide, by decide, fun k m w0 nm PX => ⟨rfl, ?g3⟩⟩⟩)))) rfl ?g4
    (case g1 => exact de_int)
    (case g2 => exact de_int)
    (case g4 => walk_at "dv loc")
    (case g3 =>
    refine' dy_lift (ds_asgN (d := .int bs) ?h1 (by rfl) (by walk_at "dv loc")) ?h2
    (case h1 =>
      rw [← hbs]
      walk_at "dv de")
    (case h2 =>
    refine' dy_for (b := bName 7) (I := fun i ρ' M' => ∃ s, Inv7 s i ∧ M' = hM ⟨C, p, k, m, w0, nm, PT⟩ s ∧ Wk ρ' [.da (.list (ns.map .int)), .da (.int z), .da (.int n), .da yo, .da yb, .rf p, .da (.int bs), .un, .un, .un, .un, .un]) (di_list (ds := cutD (ns.map .int) (some 3) (some 9)) ?i1) (pg_name (i := 7) (Fr.nd _) rfl (by walk_at "dv loc")) tg_name ⟨hs0 4 1, ⟨rfl, rfl, rfl, hs0_ok 4 1, (fun _ h => nomatch h), Nat.le_refl _⟩, rfl, Wk.refl _⟩ ?i2 ?i3
    (case i1 =>
      refine' de_sl (da := .list (ns.map .int)) (de_nm (by rfl) (by rfl) (by walk_at "dv vis")) (do_some de_int) (do_some de_int) trivial)
    (case i2 =>
      rintro i d ρi Mi hd ⟨s, inv, rfl, wk⟩
      obtain ⟨c, rfl⟩ : ∃ c, d = .int c := by
        have := cutD_mem (List.mem_of_getElem? hd)
        obtain ⟨c, _, e⟩ := List.mem_map.mp this
        exact ⟨c, e.symm⟩
      have hi : i < 63 := by
        have h1 := (List.getElem?_eq_some_iff.mp hd).1
        have h2 := cutD_len (ns.map PyData.int) (some 3) (some 9)
        rw [List.length_map] at h2
        omega
      obtain ⟨h, hh, hh1⟩ : ∃ h, atI ([.int 0, .int 2, .int 3] : List PyData) (c / 4 % 3) = some (.int h) ∧ h ≠ 1 := by
        have hs : c / 4 % 3 = 0 ∨ c / 4 % 3 = 1 ∨ c / 4 % 3 = 2 := by omega
        rcases hs with e | e | e <;> rw [e]
        · exact ⟨0, rfl, by decide⟩
        · exact ⟨2, rfl, by decide⟩
        · exact ⟨3, rfl, by decide⟩
      have hrow := row_leafF bs (c / 2 % 2)
      obtain ⟨ho, inv'⟩ := inv7_hear (x := ⟨"mark", c % 2, rowF bs (c / 2 % 2), h⟩) inv ⟨⟨show ("mark" : Str).length ≤ 1000 by decide, show PyData.strOk "mark" = true by decide +kernel⟩, hrow⟩ (show c % 2 < 2 by omega) hh1
      refine ⟨[.da (.list (ns.map .int)), .da (.int z), .da (.int n), .da yo, .da yb, .rf p, .da (.int bs), .un, .un, .un, .un, .un], _, wk, rfl, ?_⟩
      refine' dy_expr (ye_meth phear (Room.mono hr (by decide)) ?j1 ?j2 ?j3 (ya_cons (x := .da (wd ⟨"mark", c % 2, rowF bs (c / 2 % 2), h⟩)) (se_de ?j4) (ya_nil (callOk_all (.refl _) ⟨⟨C, p, k, m, w0, nm, PT⟩, s, _, rfl, rfl, rfl, rfl, inv.ok.up (by omega), ho, fun q => DY.drop (dy_nil ⟨_, inv', rfl, ?j5⟩)⟩))))
      (case j1 => walk_at "dv se")
      (case j2 => walk_at "dv mem")
      (case j3 => rfl)
      (case j4 =>
        refine' de_tup (da_cons de_str (da_cons ?k1 (da_cons ?k2 (da_cons ?k3 da_nil)))) (Nat.le_of_ble_eq_true rfl)
        (case k1 => walk_at "dv de")
        (case k2 => walk_at "dv de")
        (case k3 =>
          refine' de_ix (da := .list [.int 0, .int 2, .int 3]) (de_list ?l1 (Nat.le_of_ble_eq_true rfl)) ?l2 (ixOk_L hh)
          (case l1 => walk_at "dv da")
          (case l2 => walk_at "dv de")))
      (case j5 => exact .cons (.inr rfl) (.cons (.inr rfl) (.cons (.inr rfl) (.cons (.inr rfl) (.cons (.inr rfl) (.cons (.inr rfl) (.cons (.inr rfl) (.cons (.inl rfl) (.cons (.inr rfl) (.cons (.inr rfl) (.cons (.inr rfl) (.cons (.inr rfl) .nil)))))))))))))
    (case i3 =>
    rintro ρ' M' ⟨s, inv, rfl, wk⟩
    have hlen : (cutD (ns.map PyData.int) (some 3) (some 9)).length ≤ 6 := by
      have h2 := cut_lenI (ns.map PyData.int) 3 9 (by decide) (by decide)
      omega
    have okl : s.Ok 63 := inv.ok.up (by omega)
    have okL : s.Ok 100000 := okl.up (by decide)
    have hb : 0 ≤ s.n ∧ s.n ≤ 1000 ∧ 0 ≤ s.calls ∧ s.calls ≤ 1000 := by rw [inv.n, inv.calls]; decide
    have hyn3 : ∀ i, yn = .int i → 0 ≤ i → i ≤ 9999 → getK s.written i = none := fun i e h0 h1 => not_written inv (hyn3' i e h0 h1)
    have hx : ∀ l u, (cutS (rowF bs 0) l u).length ≤ 8 := fun l u => Nat.le_trans (cutS_length _ l u) (rowB_len (row_ok bs 0))
    have hl1 : (cutS (rowF bs 0) none (some pl)).length + (signF (c / 81)).length ≤ sizeLine := Nat.le_trans (Nat.add_le_add (hx none (some pl)) (Nat.le_refl 1)) (Nat.le_of_ble_eq_true rfl)
    have hl2 : (cutS (rowF bs 0) none (some pl) ++ signF (c / 81)).length + (cutS (rowF bs 0) (some pl) none).length ≤ sizeLine := by
      rw [len_app]
      exact Nat.le_trans (Nat.add_le_add (Nat.add_le_add (hx none (some pl)) (Nat.le_refl 1)) (hx (some pl) none)) (Nat.le_of_ble_eq_true rfl)
    refine DY.wk (ρ' := [.da (.list (ns.map .int)), .da (.int z), .da (.int n), .da yo, .da yb, .rf p, .da (.int bs), .un, .un, .un, .un, .un]) ?_ wk
    refine' dy_asg (ye_list (ya_consY (ye_iceD (ye_meth0 pled (Room.mono hr (by decide)) ?m1 ?m2 ?m3 (callOk_of (Mc := houseM ⟨C, p, k, m, w0, nm, PT⟩ s) (Mr := [(PT, .t lamH)]) (.refl _) ⟨⟨C, p, k, m, w0, nm, PT⟩, s, rfl, rfl, rfl, okl, fun q1 => ⟨q1, _, hM ⟨C, p, k, m, w0, nm, PT⟩ s, rfl, .refl _, fun z hz => hz, ya_consY (ye_ice (ye_meth0 pcau (Room.mono hr (by decide)) ?m4 ?m5 ?m6 (callOk_of (Mc := houseM ⟨C, p, k, m, w0, nm, PT⟩ s) (Mr := [(PT, .t lamH)]) (.refl _) ⟨⟨C, p, k, m, w0, nm, PT⟩, s, rfl, rfl, rfl, fun q2 => ⟨q2, _, hM ⟨C, p, k, m, w0, nm, PT⟩ s, rfl, .refl _, fun z hz => hz, ya_nil ⟨[dicD (kvK fMk (ledF s)), .list (namesD s)], rfl, Nat.le_of_ble_eq_true rfl, ?m7⟩⟩⟩)))⟩⟩))))) rfl ?m8
    (case m8 => walk_at "dv loc")
    (case m1 => walk_at "dv se")
    (case m2 => walk_at "dv mem")
    (case m3 => rfl)
    (case m4 => walk_at "dv se")
    (case m5 => walk_at "dv mem")
    (case m6 => rfl)
    (case m7 =>
    refine' dy_lift (ds_asgN (d := .int c) ?n1 (by rfl) (by walk_at "dv loc")) ?n2
    (case n1 =>
      rw [← hc]
      walk_at "dv de")
    (case n2 =>
    refine' dy_lift (ds_asgN (d := .str (rowF bs 0)) ?o1 (by rfl) (by walk_at "dv loc")) ?o2
    (case o1 =>
      walk_at "dv de")
    (case o2 =>
    refine' dy_lift (ds_asgN (d := .int pl) ?q1 (by rfl) (by walk_at "dv loc")) ?q2
    (case q1 =>
      rw [← hpl]
      walk_at "dv de")
    (case q2 =>
    refine' dy_lift (ds_asgN (d := yr) ?r1 (by rfl) (by walk_at "dv loc")) ?r2
    (case r1 =>
      refine' de_ix (da := .list (rowsL (rowF bs 0) pl c)) (de_list ?r3 (Nat.le_of_ble_eq_true rfl)) ?r4 (ixOk_L hyr)
      (case r3 =>
        unfold rowsL
        refine' da_cons (de_bin (de_bin ?r5 ?r6 (bd_addT ?r7)) ?r8 (bd_addT ?r9)) ?r10
        (case r5 =>
          refine' de_slS (z := rowF bs 0) (l := none) (u := some pl) ?r51 do_none (do_some ?r52) hlr
          (case r51 => exact de_nm (by rfl) (by rfl) (by walk_at "dv vis"))
          (case r52 => exact de_nm (by rfl) (by rfl) (by walk_at "dv vis")))
        (case r6 => walk_at "dv de")
        (case r7 => exact hl1)
        (case r8 =>
          refine' de_slS (z := rowF bs 0) (l := some pl) (u := none) ?r81 (do_some ?r82) do_none hlr
          (case r81 => exact de_nm (by rfl) (by rfl) (by walk_at "dv vis"))
          (case r82 => exact de_nm (by rfl) (by rfl) (by walk_at "dv vis")))
        (case r9 => exact hl2)
        (case r10 => walk_at "dv da"))
      (case r4 => walk_at "dv de"))
    (case r2 =>
    refine' dy_lift (ds_asgN (d := yn) ?s1 (by rfl) (by walk_at "dv loc")) ?s2
    (case s1 =>
      refine' de_ix (da := .list (numsL c)) (de_list ?s3 (Nat.le_of_ble_eq_true rfl)) ?s4 (ixOk_L hyn)
      (case s3 => unfold numsL; walk_at "dv da")
      (case s4 => walk_at "dv de"))
    (case s2 =>
    refine' dy_skipY (yt_w (yw_or (yt_cmp (ye_call pasked (Room.mono hr (by decide)) (ya_cons (x := .rf p) ?ta0 (ya_cons (x := .da (.int 0)) (se_de de_int) (ya_cons (x := .da yr) (se_de ?ta2) (ya_nil (callOk_all (.refl _) ⟨⟨C, p, k, m, w0, nm, PT⟩, s, 0, yr, rfl, rfl, rfl, rfl, okL, hyr2, hb, .inl ⟨rfl, hyr3, ye_de (d := kRow) ?ta3 ⟨kRow, kRow, false, rfl, rfl, ?ta4, ?ta5⟩⟩⟩)))))))))
    (case ta0 => walk_at "dv se")
    (case ta2 => exact de_nm (by rfl) (by rfl) (by walk_at "dv vis"))
    (case ta3 => walk_at "dv de")
    (case ta4 => exact by rw [show false = !PyData.eqv kRow kRow from by decide +kernel]; exact bd_neD (Fr.hu _) (by decide +kernel) (by decide +kernel))
    (case ta5 =>
    refine ⟨fun q => (nomatch q), fun _ => yw_or1 ?ta6⟩
    refine' yt_cmp (ye_call pasked (Room.mono hr (by decide)) (ya_cons (x := .rf p) ?tb0 (ya_cons (x := .da (.int 1)) (se_de de_int) (ya_cons (x := .da yn) (se_de ?tb2) (ya_nil (callOk_all (.refl _) ⟨⟨C, p, k, m, w0, nm, PT⟩, s, 1, yn, rfl, rfl, rfl, rfl, okL, hyn2, hb, .inr ⟨rfl, hyn3, ye_de (d := kWritten) ?tb3 ⟨kWritten, kWritten, false, rfl, rfl, ?tb4, ?tb5⟩⟩⟩))))))
    (case tb0 => walk_at "dv se")
    (case tb2 => exact de_nm (by rfl) (by rfl) (by walk_at "dv vis"))
    (case tb3 => walk_at "dv de")
    (case tb4 => exact by rw [show false = !PyData.eqv kWritten kWritten from by decide +kernel]; exact bd_neD (Fr.hu _) (by decide +kernel) (by decide +kernel))
    (case tb5 =>
    refine ⟨rfl, ?tf⟩
    refine' dy_skipY (yt_cmp (ye_list (ya_consY (ye_iceD (ye_meth0 pled (Room.mono hr (by decide)) ?u1 ?u2 ?u3 (callOk_of (Mc := houseM ⟨C, p, k, m, w0, nm, PT⟩ s) (Mr := [(PT, .t lamH)]) (.refl _) ⟨⟨C, p, k, m, w0, nm, PT⟩, s, rfl, rfl, rfl, okl, fun q1 => ⟨q1, _, hM ⟨C, p, k, m, w0, nm, PT⟩ s, rfl, .refl _, fun z hz => hz, ya_consY (ye_ice (ye_meth0 pcau (Room.mono hr (by decide)) ?u4 ?u5 ?u6 (callOk_of (Mc := houseM ⟨C, p, k, m, w0, nm, PT⟩ s) (Mr := [(PT, .t lamH)]) (.refl _) ⟨⟨C, p, k, m, w0, nm, PT⟩, s, rfl, rfl, rfl, fun q2 => ⟨q2, _, hM ⟨C, p, k, m, w0, nm, PT⟩ s, rfl, .refl _, fun z hz => hz, ya_nil ⟨[dicD (kvK fMk (ledF s)), .list (namesD s)], rfl, Nat.le_of_ble_eq_true rfl, ye_de (d := .list [dicD (kvK fMk (ledF s)), .list (namesD s)]) ?u7 ⟨_, _, false, rfl, rfl, bd_neAlk (Fr.hu _) (by decide) (state_alk okl), rfl, ?u8⟩⟩⟩⟩)))⟩⟩))))))
    (case u1 => walk_at "dv se")
    (case u2 => walk_at "dv mem")
    (case u3 => rfl)
    (case u4 => walk_at "dv se")
    (case u5 => walk_at "dv mem")
    (case u6 => rfl)
    (case u7 => exact de_nm (by rfl) (by rfl) (by walk_at "dv vis"))
    (case u8 =>
    refine' dy_ret (ye_cmp (ye_ixF (ye_meth pcall (Room.mono hr (by decide)) ?v1 ?v2 ?v3 (ya_cons (x := .da (.str "tea")) (se_de de_str) (ya_nil (callOk_all (.refl _) ⟨⟨C, p, k, m, w0, nm, PT⟩, s, .str "tea", rfl, rfl, rfl, rfl, okL, ⟨by decide, by decide +kernel⟩, hb, .inl ⟨"tea", rfl, by decide +kernel, fun q => ⟨q, _, 0, wd ⟨"say", s.own + s.n * s.calls, "tea", s.own⟩, rfl, List.mem_cons_self, de_int, atI_zero _ _, ye_de (d := wd ⟨"say", 1, "tea", 1⟩) ?v4 ⟨_, _, .bool true, rfl, rfl, ?v5, hR _⟩⟩⟩⟩))))))
    (case v1 => walk_at "dv se")
    (case v2 => walk_at "dv mem")
    (case v3 => rfl)
    (case v4 => unfold wd wordD; walk_at "dv de")
    (case v5 =>
      rw [inv.own, inv.n, inv.calls]
      exact bd_teaW (Fr.hu _)
    ))))))))))))))))))))))
end
end
theorem fin {l : PySem.W.OpenLaw} {w : World} {K : PySem.W.Frag} {h : Heap} {mg : Str → Option Value} {fa f_is_among f_need_count f_most_liars f_enough f_is_row f_are_unlike f_law_at f_law_sign f_law_row f_law_kind f_law_made f_law_asked f_law C_House f_House_init f_House_marks f_House_write f_House_name f_House_hear f_House_call f_House_ledger f_House_backing f_House_caught C_HouseError C_BadCount C_BadHouse C_BadRow C_BadWord C_Forged C_NoLetter C_NotWritten C_NoText cT PT : Addr} (X : K.In h) (G : h.Ns mainGlobals mg) (hfa : mg "law" = some (.ref fa))
    {od_is_among an_is_among od_need_count an_need_count od_most_liars an_most_liars od_enough an_enough od_is_row an_is_row od_are_unlike an_are_unlike od_law_at an_law_at od_law_sign an_law_sign od_law_row an_law_row od_law_kind an_law_kind od_law_made an_law_made od_law_asked an_law_asked od_law an_law od_House_init an_House_init od_House_marks an_House_marks od_House_write an_House_write od_House_name an_House_name od_House_hear an_House_hear od_House_call an_House_call od_House_ledger an_House_ledger od_House_backing an_House_backing od_House_caught an_House_caught : Option Addr} {sl_is_among sl_need_count sl_most_liars sl_enough sl_is_row sl_are_unlike sl_law_at sl_law_sign sl_law_row sl_law_kind sl_law_made sl_law_asked sl_law sl_House_init sl_House_marks sl_House_write sl_House_name sl_House_hear sl_House_call sl_House_ledger sl_House_backing sl_House_caught : Array (Option Value)} {oc_is_among kV_is_among dc_is_among pm_is_among cd_is_among ct_is_among oc_need_count kV_need_count dc_need_count pm_need_count cd_need_count ct_need_count oc_most_liars kV_most_liars dc_most_liars pm_most_liars cd_most_liars ct_most_liars oc_enough kV_enough dc_enough pm_enough cd_enough ct_enough oc_is_row kV_is_row dc_is_row pm_is_row cd_is_row ct_is_row oc_are_unlike kV_are_unlike dc_are_unlike pm_are_unlike cd_are_unlike ct_are_unlike oc_law_at kV_law_at dc_law_at pm_law_at cd_law_at ct_law_at oc_law_sign kV_law_sign dc_law_sign pm_law_sign cd_law_sign ct_law_sign oc_law_row kV_law_row dc_law_row pm_law_row cd_law_row ct_law_row oc_law_kind kV_law_kind dc_law_kind pm_law_kind cd_law_kind ct_law_kind oc_law_made kV_law_made dc_law_made pm_law_made cd_law_made ct_law_made oc_law_asked kV_law_asked dc_law_asked pm_law_asked cd_law_asked ct_law_asked oc_law kV_law dc_law pm_law cd_law ct_law oc_House_init kV_House_init dc_House_init pm_House_init cd_House_init ct_House_init oc_House_marks kV_House_marks dc_House_marks pm_House_marks ct_House_marks oc_House_write kV_House_write dc_House_write pm_House_write cd_House_write ct_House_write oc_House_name kV_House_name dc_House_name pm_House_name cd_House_name ct_House_name oc_House_hear kV_House_hear dc_House_hear pm_House_hear cd_House_hear ct_House_hear oc_House_call kV_House_call dc_House_call pm_House_call cd_House_call ct_House_call oc_House_ledger kV_House_ledger dc_House_ledger pm_House_ledger cd_House_ledger ct_House_ledger oc_House_backing kV_House_backing dc_House_backing pm_House_backing cd_House_backing ct_House_backing oc_House_caught kV_House_caught dc_House_caught pm_House_caught cd_House_caught ct_House_caught : Value} {tM t1 t2 : Tok} {ts : List Addr}
    (a_is_among : PySem.W.nsIn K mainGlobals "is_among" = some (some (.ref f_is_among)))
    (l_is_among : K.lookup f_is_among = some ⟨oc_is_among, od_is_among, .func (PySem.W.fnOf "is_among" "is_among" (defArgs s_among) (defBody s_among) (defScope s_among) .none kV_is_among dc_is_among pm_is_among an_is_among cd_is_among ct_is_among), sl_is_among⟩)
    (c_is_among : PySem.W.codeIn K cd_is_among "is_among" = true)
    (k_is_among : PySem.W.keepIn K (.ref f_is_among) = true)
    (a_need_count : PySem.W.nsIn K mainGlobals "need_count" = some (some (.ref f_need_count)))
    (l_need_count : K.lookup f_need_count = some ⟨oc_need_count, od_need_count, .func (PySem.W.fnOf "need_count" "need_count" (defArgs s_need) (defBody s_need) (defScope s_need) .none kV_need_count dc_need_count pm_need_count an_need_count cd_need_count ct_need_count), sl_need_count⟩)
    (c_need_count : PySem.W.codeIn K cd_need_count "need_count" = true)
    (k_need_count : PySem.W.keepIn K (.ref f_need_count) = true)
    (a_most_liars : PySem.W.nsIn K mainGlobals "most_liars" = some (some (.ref f_most_liars)))
    (l_most_liars : K.lookup f_most_liars = some ⟨oc_most_liars, od_most_liars, .func (PySem.W.fnOf "most_liars" "most_liars" (defArgs s_most) (defBody s_most) (defScope s_most) .none kV_most_liars dc_most_liars pm_most_liars an_most_liars cd_most_liars ct_most_liars), sl_most_liars⟩)
    (c_most_liars : PySem.W.codeIn K cd_most_liars "most_liars" = true)
    (k_most_liars : PySem.W.keepIn K (.ref f_most_liars) = true)
    (a_enough : PySem.W.nsIn K mainGlobals "enough" = some (some (.ref f_enough)))
    (l_enough : K.lookup f_enough = some ⟨oc_enough, od_enough, .func (PySem.W.fnOf "enough" "enough" (defArgs s_enough) (defBody s_enough) (defScope s_enough) .none kV_enough dc_enough pm_enough an_enough cd_enough ct_enough), sl_enough⟩)
    (c_enough : PySem.W.codeIn K cd_enough "enough" = true)
    (k_enough : PySem.W.keepIn K (.ref f_enough) = true)
    (a_is_row : PySem.W.nsIn K mainGlobals "is_row" = some (some (.ref f_is_row)))
    (l_is_row : K.lookup f_is_row = some ⟨oc_is_row, od_is_row, .func (PySem.W.fnOf "is_row" "is_row" (defArgs s_isrow) (defBody s_isrow) (defScope s_isrow) .none kV_is_row dc_is_row pm_is_row an_is_row cd_is_row ct_is_row), sl_is_row⟩)
    (c_is_row : PySem.W.codeIn K cd_is_row "is_row" = true)
    (k_is_row : PySem.W.keepIn K (.ref f_is_row) = true)
    (a_are_unlike : PySem.W.nsIn K mainGlobals "are_unlike" = some (some (.ref f_are_unlike)))
    (l_are_unlike : K.lookup f_are_unlike = some ⟨oc_are_unlike, od_are_unlike, .func (PySem.W.fnOf "are_unlike" "are_unlike" (defArgs s_unlike) (defBody s_unlike) (defScope s_unlike) .none kV_are_unlike dc_are_unlike pm_are_unlike an_are_unlike cd_are_unlike ct_are_unlike), sl_are_unlike⟩)
    (c_are_unlike : PySem.W.codeIn K cd_are_unlike "are_unlike" = true)
    (k_are_unlike : PySem.W.keepIn K (.ref f_are_unlike) = true)
    (a_law_at : PySem.W.nsIn K mainGlobals "_law_at" = some (some (.ref f_law_at)))
    (l_law_at : K.lookup f_law_at = some ⟨oc_law_at, od_law_at, .func (PySem.W.fnOf "_law_at" "_law_at" (defArgs s_lat) (defBody s_lat) (defScope s_lat) .none kV_law_at dc_law_at pm_law_at an_law_at cd_law_at ct_law_at), sl_law_at⟩)
    (c_law_at : PySem.W.codeIn K cd_law_at "_law_at" = true)
    (k_law_at : PySem.W.keepIn K (.ref f_law_at) = true)
    (a_law_sign : PySem.W.nsIn K mainGlobals "_law_sign" = some (some (.ref f_law_sign)))
    (l_law_sign : K.lookup f_law_sign = some ⟨oc_law_sign, od_law_sign, .func (PySem.W.fnOf "_law_sign" "_law_sign" (defArgs s_sign) (defBody s_sign) (defScope s_sign) .none kV_law_sign dc_law_sign pm_law_sign an_law_sign cd_law_sign ct_law_sign), sl_law_sign⟩)
    (c_law_sign : PySem.W.codeIn K cd_law_sign "_law_sign" = true)
    (k_law_sign : PySem.W.keepIn K (.ref f_law_sign) = true)
    (a_law_row : PySem.W.nsIn K mainGlobals "_law_row" = some (some (.ref f_law_row)))
    (l_law_row : K.lookup f_law_row = some ⟨oc_law_row, od_law_row, .func (PySem.W.fnOf "_law_row" "_law_row" (defArgs s_rowf) (defBody s_rowf) (defScope s_rowf) .none kV_law_row dc_law_row pm_law_row an_law_row cd_law_row ct_law_row), sl_law_row⟩)
    (c_law_row : PySem.W.codeIn K cd_law_row "_law_row" = true)
    (k_law_row : PySem.W.keepIn K (.ref f_law_row) = true)
    (a_law_kind : PySem.W.nsIn K mainGlobals "_law_kind" = some (some (.ref f_law_kind)))
    (l_law_kind : K.lookup f_law_kind = some ⟨oc_law_kind, od_law_kind, .func (PySem.W.fnOf "_law_kind" "_law_kind" (defArgs s_kind) (defBody s_kind) (defScope s_kind) .none kV_law_kind dc_law_kind pm_law_kind an_law_kind cd_law_kind ct_law_kind), sl_law_kind⟩)
    (c_law_kind : PySem.W.codeIn K cd_law_kind "_law_kind" = true)
    (k_law_kind : PySem.W.keepIn K (.ref f_law_kind) = true)
    (a_law_made : PySem.W.nsIn K mainGlobals "_law_made" = some (some (.ref f_law_made)))
    (l_law_made : K.lookup f_law_made = some ⟨oc_law_made, od_law_made, .func (PySem.W.fnOf "_law_made" "_law_made" (defArgs s_made) (defBody s_made) (defScope s_made) .none kV_law_made dc_law_made pm_law_made an_law_made cd_law_made ct_law_made), sl_law_made⟩)
    (c_law_made : PySem.W.codeIn K cd_law_made "_law_made" = true)
    (k_law_made : PySem.W.keepIn K (.ref f_law_made) = true)
    (a_law_asked : PySem.W.nsIn K mainGlobals "_law_asked" = some (some (.ref f_law_asked)))
    (l_law_asked : K.lookup f_law_asked = some ⟨oc_law_asked, od_law_asked, .func (PySem.W.fnOf "_law_asked" "_law_asked" (defArgs s_asked) (defBody s_asked) (defScope s_asked) .none kV_law_asked dc_law_asked pm_law_asked an_law_asked cd_law_asked ct_law_asked), sl_law_asked⟩)
    (c_law_asked : PySem.W.codeIn K cd_law_asked "_law_asked" = true)
    (k_law_asked : PySem.W.keepIn K (.ref f_law_asked) = true)
    (a_law : PySem.W.nsIn K mainGlobals "law" = some (some (.ref f_law)))
    (l_law : K.lookup f_law = some ⟨oc_law, od_law, .func (PySem.W.fnOf "law" "law" (defArgs s_law) (defBody s_law) (defScope s_law) .none kV_law dc_law pm_law an_law cd_law ct_law), sl_law⟩)
    (c_law : PySem.W.codeIn K cd_law "law" = true)
    (k_law : PySem.W.keepIn K (.ref f_law) = true)
    (a_House : PySem.W.nsIn K mainGlobals "House" = some (some (.ref C_House)))
    (mk_House : PySem.W.makesIn K C_House = true)
    (kp_House : PySem.W.keepIn K (.ref C_House) = true)
    (pg_House : PySem.W.plainGet K C_House Str.empty = true)
    (hd_House : PySem.W.hasDictIn K C_House = true)
    (po_House : PySem.W.plainOver K C_House = true)
    (sa_House : PySem.W.findIn K (.ref C_House) "__setattr__" = some (some (.builtin "object.__setattr__")))
    (na_House_wanted : PySem.W.findIn K (.ref C_House) "wanted" = some none)
    (na_House_count : PySem.W.findIn K (.ref C_House) "count" = some none)
    (na_House_own : PySem.W.findIn K (.ref C_House) "own" = some none)
    (na_House_known : PySem.W.findIn K (.ref C_House) "known" = some none)
    (na_House_marked : PySem.W.findIn K (.ref C_House) "marked" = some none)
    (na_House_written : PySem.W.findIn K (.ref C_House) "written" = some none)
    (na_House_named : PySem.W.findIn K (.ref C_House) "named" = some none)
    (na_House_calls : PySem.W.findIn K (.ref C_House) "calls" = some none)
    (a_House_init : PySem.W.findIn K (.ref C_House) "__init__" = some (some (.ref f_House_init)))
    (f_House_init_ : PySem.W.isFn K (.ref f_House_init) = true)
    (l_House_init : K.lookup f_House_init = some ⟨oc_House_init, od_House_init, .func (PySem.W.fnOf "__init__" "House.__init__" (defArgs s_hinit) (defBody s_hinit) (defScope s_hinit) .none kV_House_init dc_House_init pm_House_init an_House_init cd_House_init ct_House_init), sl_House_init⟩)
    (c_House_init : PySem.W.codeIn K cd_House_init "House.__init__" = true)
    (k_House_init : PySem.W.keepIn K (.ref f_House_init) = true)
    (a_House_marks : PySem.W.findIn K (.ref C_House) "marks" = some (some (.ref f_House_marks)))
    (f_House_marks_ : PySem.W.isFn K (.ref f_House_marks) = true)
    (l_House_marks : K.lookup f_House_marks = some ⟨oc_House_marks, od_House_marks, .func (PySem.W.fnOf "marks" "House.marks" (defArgs s_hmarks) (defBody s_hmarks) (defScope s_hmarks) .none kV_House_marks dc_House_marks pm_House_marks an_House_marks (.ref cT) ct_House_marks), sl_House_marks⟩)
    (c_House_marks : PySem.W.codeIn K (.ref cT) "House.marks" = true)
    (k_House_marks : PySem.W.keepIn K (.ref f_House_marks) = true)
    (a_House_write : PySem.W.findIn K (.ref C_House) "write" = some (some (.ref f_House_write)))
    (f_House_write_ : PySem.W.isFn K (.ref f_House_write) = true)
    (l_House_write : K.lookup f_House_write = some ⟨oc_House_write, od_House_write, .func (PySem.W.fnOf "write" "House.write" (defArgs s_hwrite) (defBody s_hwrite) (defScope s_hwrite) .none kV_House_write dc_House_write pm_House_write an_House_write cd_House_write ct_House_write), sl_House_write⟩)
    (c_House_write : PySem.W.codeIn K cd_House_write "House.write" = true)
    (k_House_write : PySem.W.keepIn K (.ref f_House_write) = true)
    (a_House_name : PySem.W.findIn K (.ref C_House) "name" = some (some (.ref f_House_name)))
    (f_House_name_ : PySem.W.isFn K (.ref f_House_name) = true)
    (l_House_name : K.lookup f_House_name = some ⟨oc_House_name, od_House_name, .func (PySem.W.fnOf "name" "House.name" (defArgs s_hname) (defBody s_hname) (defScope s_hname) .none kV_House_name dc_House_name pm_House_name an_House_name cd_House_name ct_House_name), sl_House_name⟩)
    (c_House_name : PySem.W.codeIn K cd_House_name "House.name" = true)
    (k_House_name : PySem.W.keepIn K (.ref f_House_name) = true)
    (a_House_hear : PySem.W.findIn K (.ref C_House) "hear" = some (some (.ref f_House_hear)))
    (f_House_hear_ : PySem.W.isFn K (.ref f_House_hear) = true)
    (l_House_hear : K.lookup f_House_hear = some ⟨oc_House_hear, od_House_hear, .func (PySem.W.fnOf "hear" "House.hear" (defArgs s_hhear) (defBody s_hhear) (defScope s_hhear) .none kV_House_hear dc_House_hear pm_House_hear an_House_hear cd_House_hear ct_House_hear), sl_House_hear⟩)
    (c_House_hear : PySem.W.codeIn K cd_House_hear "House.hear" = true)
    (k_House_hear : PySem.W.keepIn K (.ref f_House_hear) = true)
    (a_House_call : PySem.W.findIn K (.ref C_House) "call" = some (some (.ref f_House_call)))
    (f_House_call_ : PySem.W.isFn K (.ref f_House_call) = true)
    (l_House_call : K.lookup f_House_call = some ⟨oc_House_call, od_House_call, .func (PySem.W.fnOf "call" "House.call" (defArgs s_hcall) (defBody s_hcall) (defScope s_hcall) .none kV_House_call dc_House_call pm_House_call an_House_call cd_House_call ct_House_call), sl_House_call⟩)
    (c_House_call : PySem.W.codeIn K cd_House_call "House.call" = true)
    (k_House_call : PySem.W.keepIn K (.ref f_House_call) = true)
    (a_House_ledger : PySem.W.findIn K (.ref C_House) "ledger" = some (some (.ref f_House_ledger)))
    (f_House_ledger_ : PySem.W.isFn K (.ref f_House_ledger) = true)
    (l_House_ledger : K.lookup f_House_ledger = some ⟨oc_House_ledger, od_House_ledger, .func (PySem.W.fnOf "ledger" "House.ledger" (defArgs s_hledger) (defBody s_hledger) (defScope s_hledger) .none kV_House_ledger dc_House_ledger pm_House_ledger an_House_ledger cd_House_ledger ct_House_ledger), sl_House_ledger⟩)
    (c_House_ledger : PySem.W.codeIn K cd_House_ledger "House.ledger" = true)
    (k_House_ledger : PySem.W.keepIn K (.ref f_House_ledger) = true)
    (a_House_backing : PySem.W.findIn K (.ref C_House) "backing" = some (some (.ref f_House_backing)))
    (f_House_backing_ : PySem.W.isFn K (.ref f_House_backing) = true)
    (l_House_backing : K.lookup f_House_backing = some ⟨oc_House_backing, od_House_backing, .func (PySem.W.fnOf "backing" "House.backing" (defArgs s_hback) (defBody s_hback) (defScope s_hback) .none kV_House_backing dc_House_backing pm_House_backing an_House_backing cd_House_backing ct_House_backing), sl_House_backing⟩)
    (c_House_backing : PySem.W.codeIn K cd_House_backing "House.backing" = true)
    (k_House_backing : PySem.W.keepIn K (.ref f_House_backing) = true)
    (a_House_caught : PySem.W.findIn K (.ref C_House) "caught" = some (some (.ref f_House_caught)))
    (f_House_caught_ : PySem.W.isFn K (.ref f_House_caught) = true)
    (l_House_caught : K.lookup f_House_caught = some ⟨oc_House_caught, od_House_caught, .func (PySem.W.fnOf "caught" "House.caught" (defArgs s_hcaught) (defBody s_hcaught) (defScope s_hcaught) .none kV_House_caught dc_House_caught pm_House_caught an_House_caught cd_House_caught ct_House_caught), sl_House_caught⟩)
    (c_House_caught : PySem.W.codeIn K cd_House_caught "House.caught" = true)
    (k_House_caught : PySem.W.keepIn K (.ref f_House_caught) = true)
    (z_len : PySem.W.nsIn K mainGlobals "len" = some none)
    (z_isinstance : PySem.W.nsIn K mainGlobals "isinstance" = some none)
    (z_int : PySem.W.nsIn K mainGlobals "int" = some none)
    (z_str : PySem.W.nsIn K mainGlobals "str" = some none)
    (z_bool : PySem.W.nsIn K mainGlobals "bool" = some none)
    (z_tuple : PySem.W.nsIn K mainGlobals "tuple" = some none)
    (z_list : PySem.W.nsIn K mainGlobals "list" = some none)
    (z_dict : PySem.W.nsIn K mainGlobals "dict" = some none)
    (z_abs : PySem.W.nsIn K mainGlobals "abs" = some none)
    (z_min : PySem.W.nsIn K mainGlobals "min" = some none)
    (z_max : PySem.W.nsIn K mainGlobals "max" = some none)
    (z_range : PySem.W.nsIn K mainGlobals "range" = some none)
    (z_sorted : PySem.W.nsIn K mainGlobals "sorted" = some none)
    (z_set : PySem.W.nsIn K mainGlobals "set" = some none)
    (z_enumerate : PySem.W.nsIn K mainGlobals "enumerate" = some none)
    (a_HouseError : PySem.W.nsIn K mainGlobals "HouseError" = some (some (.ref C_HouseError)))
    (t_HouseError : PySem.W.typeIn K (.ref C_HouseError) = some (.type "type"))
    (i_HouseError : PySem.W.isClsIn K C_HouseError = true)
    (a_BadCount : PySem.W.nsIn K mainGlobals "BadCount" = some (some (.ref C_BadCount)))
    (t_BadCount : PySem.W.typeIn K (.ref C_BadCount) = some (.type "type"))
    (i_BadCount : PySem.W.isClsIn K C_BadCount = true)
    (a_BadHouse : PySem.W.nsIn K mainGlobals "BadHouse" = some (some (.ref C_BadHouse)))
    (t_BadHouse : PySem.W.typeIn K (.ref C_BadHouse) = some (.type "type"))
    (i_BadHouse : PySem.W.isClsIn K C_BadHouse = true)
    (a_BadRow : PySem.W.nsIn K mainGlobals "BadRow" = some (some (.ref C_BadRow)))
    (t_BadRow : PySem.W.typeIn K (.ref C_BadRow) = some (.type "type"))
    (i_BadRow : PySem.W.isClsIn K C_BadRow = true)
    (a_BadWord : PySem.W.nsIn K mainGlobals "BadWord" = some (some (.ref C_BadWord)))
    (t_BadWord : PySem.W.typeIn K (.ref C_BadWord) = some (.type "type"))
    (i_BadWord : PySem.W.isClsIn K C_BadWord = true)
    (a_Forged : PySem.W.nsIn K mainGlobals "Forged" = some (some (.ref C_Forged)))
    (t_Forged : PySem.W.typeIn K (.ref C_Forged) = some (.type "type"))
    (i_Forged : PySem.W.isClsIn K C_Forged = true)
    (a_NoLetter : PySem.W.nsIn K mainGlobals "NoLetter" = some (some (.ref C_NoLetter)))
    (t_NoLetter : PySem.W.typeIn K (.ref C_NoLetter) = some (.type "type"))
    (i_NoLetter : PySem.W.isClsIn K C_NoLetter = true)
    (a_NotWritten : PySem.W.nsIn K mainGlobals "NotWritten" = some (some (.ref C_NotWritten)))
    (t_NotWritten : PySem.W.typeIn K (.ref C_NotWritten) = some (.type "type"))
    (i_NotWritten : PySem.W.isClsIn K C_NotWritten = true)
    (a_NoText : PySem.W.nsIn K mainGlobals "NoText" = some (some (.ref C_NoText)))
    (t_NoText : PySem.W.typeIn K (.ref C_NoText) = some (.type "type"))
    (i_NoText : PySem.W.isClsIn K C_NoText = true)
    (q_BadCount : PySem.W.excIn K C_BadCount [.type "ValueError", .type "Exception", .type "BaseException", .type "object"] "ValueError.__new__" = true)
    (kp_BadCount : PySem.W.keepIn K (.ref C_BadCount) = true)
    (b_BadCount : PySem.W.subIn K (.ref C_BadCount) (.type "BaseException") = some true)
    (q_BadHouse : PySem.W.excIn K C_BadHouse [.type "ValueError", .type "Exception", .type "BaseException", .type "object"] "ValueError.__new__" = true)
    (kp_BadHouse : PySem.W.keepIn K (.ref C_BadHouse) = true)
    (b_BadHouse : PySem.W.subIn K (.ref C_BadHouse) (.type "BaseException") = some true)
    (q_BadRow : PySem.W.excIn K C_BadRow [.type "ValueError", .type "Exception", .type "BaseException", .type "object"] "ValueError.__new__" = true)
    (kp_BadRow : PySem.W.keepIn K (.ref C_BadRow) = true)
    (b_BadRow : PySem.W.subIn K (.ref C_BadRow) (.type "BaseException") = some true)
    (q_NotWritten : PySem.W.excIn K C_NotWritten [.type "ValueError", .type "Exception", .type "BaseException", .type "object"] "ValueError.__new__" = true)
    (kp_NotWritten : PySem.W.keepIn K (.ref C_NotWritten) = true)
    (b_NotWritten : PySem.W.subIn K (.ref C_NotWritten) (.type "BaseException") = some true)
    (xg_BadCount : PySem.W.findIn K (.ref C_BadCount) "__getattribute__" = some (some (.builtin "BaseException.__getattribute__")))
    (xk_BadCount : PySem.W.findIn K (.ref C_BadCount) "__getattr__" = some none)
    (xd_BadCount : PySem.W.hasDictIn K C_BadCount = true)
    (xa_BadCount : PySem.W.findIn K (.ref C_BadCount) "__class__" = some (some (.builtin "object.__class__")))
    (xm_BadCount : PySem.W.mroIn K C_BadCount (.type "object") = some true)
    (xv_BadCount : PySem.W.subIn K (.ref C_BadCount) (.type "ValueError") = some true)
    (xg_BadHouse : PySem.W.findIn K (.ref C_BadHouse) "__getattribute__" = some (some (.builtin "BaseException.__getattribute__")))
    (xk_BadHouse : PySem.W.findIn K (.ref C_BadHouse) "__getattr__" = some none)
    (xd_BadHouse : PySem.W.hasDictIn K C_BadHouse = true)
    (xa_BadHouse : PySem.W.findIn K (.ref C_BadHouse) "__class__" = some (some (.builtin "object.__class__")))
    (xm_BadHouse : PySem.W.mroIn K C_BadHouse (.type "object") = some true)
    (xv_BadHouse : PySem.W.subIn K (.ref C_BadHouse) (.type "ValueError") = some true)
    (xg_BadRow : PySem.W.findIn K (.ref C_BadRow) "__getattribute__" = some (some (.builtin "BaseException.__getattribute__")))
    (xk_BadRow : PySem.W.findIn K (.ref C_BadRow) "__getattr__" = some none)
    (xd_BadRow : PySem.W.hasDictIn K C_BadRow = true)
    (xa_BadRow : PySem.W.findIn K (.ref C_BadRow) "__class__" = some (some (.builtin "object.__class__")))
    (xm_BadRow : PySem.W.mroIn K C_BadRow (.type "object") = some true)
    (xv_BadRow : PySem.W.subIn K (.ref C_BadRow) (.type "ValueError") = some true)
    (xg_NotWritten : PySem.W.findIn K (.ref C_NotWritten) "__getattribute__" = some (some (.builtin "BaseException.__getattribute__")))
    (xk_NotWritten : PySem.W.findIn K (.ref C_NotWritten) "__getattr__" = some none)
    (xd_NotWritten : PySem.W.hasDictIn K C_NotWritten = true)
    (xa_NotWritten : PySem.W.findIn K (.ref C_NotWritten) "__class__" = some (some (.builtin "object.__class__")))
    (xm_NotWritten : PySem.W.mroIn K C_NotWritten (.type "object") = some true)
    (xv_NotWritten : PySem.W.subIn K (.ref C_NotWritten) (.type "ValueError") = some true)
    (xn : PySem.W.specialIn K (.builtin "object.__class__") "__get__" = some (some (.builtin "getset_descriptor.__get__")))
    (xt : PySem.W.takesIn K (.builtin "object.__class__") = some true)
    (s_BadCount_BadCount : PySem.W.subIn K (.ref C_BadCount) (.ref C_BadCount) = some true)
    (s_BadCount_BadHouse : PySem.W.subIn K (.ref C_BadCount) (.ref C_BadHouse) = some false)
    (n_BadCount_BadHouse : (Value.ref C_BadCount == Value.ref C_BadHouse) = false)
    (s_BadCount_BadRow : PySem.W.subIn K (.ref C_BadCount) (.ref C_BadRow) = some false)
    (n_BadCount_BadRow : (Value.ref C_BadCount == Value.ref C_BadRow) = false)
    (s_BadCount_BadWord : PySem.W.subIn K (.ref C_BadCount) (.ref C_BadWord) = some false)
    (n_BadCount_BadWord : (Value.ref C_BadCount == Value.ref C_BadWord) = false)
    (s_BadCount_Forged : PySem.W.subIn K (.ref C_BadCount) (.ref C_Forged) = some false)
    (n_BadCount_Forged : (Value.ref C_BadCount == Value.ref C_Forged) = false)
    (s_BadCount_NoLetter : PySem.W.subIn K (.ref C_BadCount) (.ref C_NoLetter) = some false)
    (n_BadCount_NoLetter : (Value.ref C_BadCount == Value.ref C_NoLetter) = false)
    (s_BadCount_NotWritten : PySem.W.subIn K (.ref C_BadCount) (.ref C_NotWritten) = some false)
    (n_BadCount_NotWritten : (Value.ref C_BadCount == Value.ref C_NotWritten) = false)
    (s_BadCount_NoText : PySem.W.subIn K (.ref C_BadCount) (.ref C_NoText) = some false)
    (n_BadCount_NoText : (Value.ref C_BadCount == Value.ref C_NoText) = false)
    (s_BadHouse_BadCount : PySem.W.subIn K (.ref C_BadHouse) (.ref C_BadCount) = some false)
    (n_BadHouse_BadCount : (Value.ref C_BadHouse == Value.ref C_BadCount) = false)
    (s_BadHouse_BadHouse : PySem.W.subIn K (.ref C_BadHouse) (.ref C_BadHouse) = some true)
    (s_BadHouse_BadRow : PySem.W.subIn K (.ref C_BadHouse) (.ref C_BadRow) = some false)
    (n_BadHouse_BadRow : (Value.ref C_BadHouse == Value.ref C_BadRow) = false)
    (s_BadHouse_BadWord : PySem.W.subIn K (.ref C_BadHouse) (.ref C_BadWord) = some false)
    (n_BadHouse_BadWord : (Value.ref C_BadHouse == Value.ref C_BadWord) = false)
    (s_BadHouse_Forged : PySem.W.subIn K (.ref C_BadHouse) (.ref C_Forged) = some false)
    (n_BadHouse_Forged : (Value.ref C_BadHouse == Value.ref C_Forged) = false)
    (s_BadHouse_NoLetter : PySem.W.subIn K (.ref C_BadHouse) (.ref C_NoLetter) = some false)
    (n_BadHouse_NoLetter : (Value.ref C_BadHouse == Value.ref C_NoLetter) = false)
    (s_BadHouse_NotWritten : PySem.W.subIn K (.ref C_BadHouse) (.ref C_NotWritten) = some false)
    (n_BadHouse_NotWritten : (Value.ref C_BadHouse == Value.ref C_NotWritten) = false)
    (s_BadHouse_NoText : PySem.W.subIn K (.ref C_BadHouse) (.ref C_NoText) = some false)
    (n_BadHouse_NoText : (Value.ref C_BadHouse == Value.ref C_NoText) = false)
    (s_BadRow_BadCount : PySem.W.subIn K (.ref C_BadRow) (.ref C_BadCount) = some false)
    (n_BadRow_BadCount : (Value.ref C_BadRow == Value.ref C_BadCount) = false)
    (s_BadRow_BadHouse : PySem.W.subIn K (.ref C_BadRow) (.ref C_BadHouse) = some false)
    (n_BadRow_BadHouse : (Value.ref C_BadRow == Value.ref C_BadHouse) = false)
    (s_BadRow_BadRow : PySem.W.subIn K (.ref C_BadRow) (.ref C_BadRow) = some true)
    (s_BadRow_BadWord : PySem.W.subIn K (.ref C_BadRow) (.ref C_BadWord) = some false)
    (n_BadRow_BadWord : (Value.ref C_BadRow == Value.ref C_BadWord) = false)
    (s_BadRow_Forged : PySem.W.subIn K (.ref C_BadRow) (.ref C_Forged) = some false)
    (n_BadRow_Forged : (Value.ref C_BadRow == Value.ref C_Forged) = false)
    (s_BadRow_NoLetter : PySem.W.subIn K (.ref C_BadRow) (.ref C_NoLetter) = some false)
    (n_BadRow_NoLetter : (Value.ref C_BadRow == Value.ref C_NoLetter) = false)
    (s_BadRow_NotWritten : PySem.W.subIn K (.ref C_BadRow) (.ref C_NotWritten) = some false)
    (n_BadRow_NotWritten : (Value.ref C_BadRow == Value.ref C_NotWritten) = false)
    (s_BadRow_NoText : PySem.W.subIn K (.ref C_BadRow) (.ref C_NoText) = some false)
    (n_BadRow_NoText : (Value.ref C_BadRow == Value.ref C_NoText) = false)
    (s_NotWritten_BadCount : PySem.W.subIn K (.ref C_NotWritten) (.ref C_BadCount) = some false)
    (n_NotWritten_BadCount : (Value.ref C_NotWritten == Value.ref C_BadCount) = false)
    (s_NotWritten_BadHouse : PySem.W.subIn K (.ref C_NotWritten) (.ref C_BadHouse) = some false)
    (n_NotWritten_BadHouse : (Value.ref C_NotWritten == Value.ref C_BadHouse) = false)
    (s_NotWritten_BadRow : PySem.W.subIn K (.ref C_NotWritten) (.ref C_BadRow) = some false)
    (n_NotWritten_BadRow : (Value.ref C_NotWritten == Value.ref C_BadRow) = false)
    (s_NotWritten_BadWord : PySem.W.subIn K (.ref C_NotWritten) (.ref C_BadWord) = some false)
    (n_NotWritten_BadWord : (Value.ref C_NotWritten == Value.ref C_BadWord) = false)
    (s_NotWritten_Forged : PySem.W.subIn K (.ref C_NotWritten) (.ref C_Forged) = some false)
    (n_NotWritten_Forged : (Value.ref C_NotWritten == Value.ref C_Forged) = false)
    (s_NotWritten_NoLetter : PySem.W.subIn K (.ref C_NotWritten) (.ref C_NoLetter) = some false)
    (n_NotWritten_NoLetter : (Value.ref C_NotWritten == Value.ref C_NoLetter) = false)
    (s_NotWritten_NotWritten : PySem.W.subIn K (.ref C_NotWritten) (.ref C_NotWritten) = some true)
    (s_NotWritten_NoText : PySem.W.subIn K (.ref C_NotWritten) (.ref C_NoText) = some false)
    (n_NotWritten_NoText : (Value.ref C_NotWritten == Value.ref C_NoText) = false)
    (s_BadCount_HouseError : PySem.W.subIn K (.ref C_BadCount) (.ref C_HouseError) = some true)
    (s_BadHouse_HouseError : PySem.W.subIn K (.ref C_BadHouse) (.ref C_HouseError) = some true)
    (s_BadRow_HouseError : PySem.W.subIn K (.ref C_BadRow) (.ref C_HouseError) = some true)
    (s_NotWritten_HouseError : PySem.W.subIn K (.ref C_NotWritten) (.ref C_HouseError) = some true)
    (aM : PySem.W.nsIn K mainGlobals "MOST_HOUSES" = some (some (.int 12 tM)))
    (aL : PySem.W.nsIn K mainGlobals "LETTERS" = some (some (.str lettersS t1)))
    (aML : PySem.W.nsIn K mainGlobals "MOST_LETTERS" = some (some (.int 8 t2)))
    (zV : PySem.W.nsIn K mainGlobals "ValueError" = some none)
    (bH : PySem.W.subIn K (.ref C_HouseError) (.type "BaseException") = some true)
    (hPT : PT ∈ ts)
    (hLP : K.lookup PT = none)
    (hCH : PySem.W.codeHdIn K cT PT = true)
    : ∃ (fd : FuncData) (c P : Addr) (tq : Str), P ∈ ts ∧ K.lookup P = none ∧ PySem.W.codeHdIn K c P = true ∧ (∀ (s : Shared) (u : Value), BindsTo s fd ⟨[u], []⟩ [("_law_script", u)]) ∧ ∀ base : Heap, K.In base → base.Ns mainGlobals mg → LamX.TabB base mg c P → FnOk l.prog w K mg base (L2N.CX l.prog w) 10 fa fd ["_law_script"] (spM K (gLawT P tq)) := by
  have e := hfa.symm.trans (PySem.W.mg_of X G a_law)
  cases e
  have bl : Bl mg := ⟨PySem.W.mg_none_of X G z_len, PySem.W.mg_none_of X G z_isinstance, PySem.W.mg_none_of X G z_int, PySem.W.mg_none_of X G z_str, PySem.W.mg_none_of X G z_bool, PySem.W.mg_none_of X G z_tuple, PySem.W.mg_none_of X G z_list, PySem.W.mg_none_of X G z_dict, PySem.W.mg_none_of X G z_abs, PySem.W.mg_none_of X G z_min, PySem.W.mg_none_of X G z_max, PySem.W.mg_none_of X G z_range, PySem.W.mg_none_of X G z_sorted, PySem.W.mg_none_of X G z_set, PySem.W.mg_none_of X G z_enumerate⟩
  have E_BadCount : Ecl K mg "BadCount" C_BadCount := ⟨q_BadCount, PySem.W.mg_of X G a_BadCount, kp_BadCount, b_BadCount, t_BadCount⟩
  have E_BadHouse : Ecl K mg "BadHouse" C_BadHouse := ⟨q_BadHouse, PySem.W.mg_of X G a_BadHouse, kp_BadHouse, b_BadHouse, t_BadHouse⟩
  have E_BadRow : Ecl K mg "BadRow" C_BadRow := ⟨q_BadRow, PySem.W.mg_of X G a_BadRow, kp_BadRow, b_BadRow, t_BadRow⟩
  have E_NotWritten : Ecl K mg "NotWritten" C_NotWritten := ⟨q_NotWritten, PySem.W.mg_of X G a_NotWritten, kp_NotWritten, b_NotWritten, t_NotWritten⟩
  have X_BadCount : ExcC K C_BadCount := ⟨xg_BadCount, xk_BadCount, b_BadCount, xd_BadCount, xa_BadCount, xn, xt, xm_BadCount⟩
  have X_BadHouse : ExcC K C_BadHouse := ⟨xg_BadHouse, xk_BadHouse, b_BadHouse, xd_BadHouse, xa_BadHouse, xn, xt, xm_BadHouse⟩
  have X_BadRow : ExcC K C_BadRow := ⟨xg_BadRow, xk_BadRow, b_BadRow, xd_BadRow, xa_BadRow, xn, xt, xm_BadRow⟩
  have X_NotWritten : ExcC K C_NotWritten := ⟨xg_NotWritten, xk_NotWritten, b_NotWritten, xd_NotWritten, xa_NotWritten, xn, xt, xm_NotWritten⟩
  have F_is_among := fun_mk (st := s_among) l_is_among c_is_among k_is_among
  have m_is_among := PySem.W.mg_of X G a_is_among
  have b_is_among := F_is_among.binds (ps := ["thing", "least", "most"]) fun _ _ _ _ _ _ us hl => match us, hl with | [_, _, _], _ => rfl
  have F_need_count := fun_mk (st := s_need) l_need_count c_need_count k_need_count
  have m_need_count := PySem.W.mg_of X G a_need_count
  have b_need_count := F_need_count.binds (ps := ["count"]) fun _ _ _ _ _ _ us hl => match us, hl with | [_], _ => rfl
  have F_most_liars := fun_mk (st := s_most) l_most_liars c_most_liars k_most_liars
  have m_most_liars := PySem.W.mg_of X G a_most_liars
  have b_most_liars := F_most_liars.binds (ps := ["count"]) fun _ _ _ _ _ _ us hl => match us, hl with | [_], _ => rfl
  have F_enough := fun_mk (st := s_enough) l_enough c_enough k_enough
  have m_enough := PySem.W.mg_of X G a_enough
  have b_enough := F_enough.binds (ps := ["count"]) fun _ _ _ _ _ _ us hl => match us, hl with | [_], _ => rfl
  have F_is_row := fun_mk (st := s_isrow) l_is_row c_is_row k_is_row
  have m_is_row := PySem.W.mg_of X G a_is_row
  have b_is_row := F_is_row.binds (ps := ["thing"]) fun _ _ _ _ _ _ us hl => match us, hl with | [_], _ => rfl
  have F_are_unlike := fun_mk (st := s_unlike) l_are_unlike c_are_unlike k_are_unlike
  have m_are_unlike := PySem.W.mg_of X G a_are_unlike
  have b_are_unlike := F_are_unlike.binds (ps := ["one", "other"]) fun _ _ _ _ _ _ us hl => match us, hl with | [_, _], _ => rfl
  have F_law_at := fun_mk (st := s_lat) l_law_at c_law_at k_law_at
  have m_law_at := PySem.W.mg_of X G a_law_at
  have b_law_at := F_law_at.binds (ps := ["_law_script", "_law_k"]) fun _ _ _ _ _ _ us hl => match us, hl with | [_, _], _ => rfl
  have F_law_sign := fun_mk (st := s_sign) l_law_sign c_law_sign k_law_sign
  have m_law_sign := PySem.W.mg_of X G a_law_sign
  have b_law_sign := F_law_sign.binds (ps := ["_law_cell"]) fun _ _ _ _ _ _ us hl => match us, hl with | [_], _ => rfl
  have F_law_row := fun_mk (st := s_rowf) l_law_row c_law_row k_law_row
  have m_law_row := PySem.W.mg_of X G a_law_row
  have b_law_row := F_law_row.binds (ps := ["_law_base", "_law_k"]) fun _ _ _ _ _ _ us hl => match us, hl with | [_, _], _ => rfl
  have F_law_kind := fun_mk (st := s_kind) l_law_kind c_law_kind k_law_kind
  have m_law_kind := PySem.W.mg_of X G a_law_kind
  have b_law_kind := F_law_kind.binds (ps := ["_law_error"]) fun _ _ _ _ _ _ us hl => match us, hl with | [_], _ => rfl
  have F_law_made := fun_mk (st := s_made) l_law_made c_law_made k_law_made
  have m_law_made := PySem.W.mg_of X G a_law_made
  have b_law_made := F_law_made.binds (ps := ["_law_count", "_law_own"]) fun _ _ _ _ _ _ us hl => match us, hl with | [_, _], _ => rfl
  have F_law_asked := fun_mk (st := s_asked) l_law_asked c_law_asked k_law_asked
  have m_law_asked := PySem.W.mg_of X G a_law_asked
  have b_law_asked := F_law_asked.binds (ps := ["_law_house", "_law_which", "_law_thing"]) fun _ _ _ _ _ _ us hl => match us, hl with | [_, _, _], _ => rfl
  have F_law := fun_mk (st := s_law) l_law c_law k_law
  have m_law := PySem.W.mg_of X G a_law
  have cl_House : Cls K C_House := ⟨pg_House, hd_House, po_House, sa_House⟩
  have F_House_init := fun_mk (st := s_hinit) l_House_init c_House_init k_House_init
  have b_House_init := F_House_init.binds (ps := ["self", "count", "own"]) fun _ _ _ _ _ _ us hl => match us, hl with | [_, _, _], _ => rfl
  have F_House_marks := fun_mk (st := s_hmarks) l_House_marks c_House_marks k_House_marks
  have b_House_marks := F_House_marks.binds (ps := ["self", "number", "row"]) fun _ _ _ _ _ _ us hl => match us, hl with | [_, _, _], _ => rfl
  have F_House_write := fun_mk (st := s_hwrite) l_House_write c_House_write k_House_write
  have b_House_write := F_House_write.binds (ps := ["self", "number", "row"]) fun _ _ _ _ _ _ us hl => match us, hl with | [_, _, _], _ => rfl
  have F_House_name := fun_mk (st := s_hname) l_House_name c_House_name k_House_name
  have b_House_name := F_House_name.binds (ps := ["self", "before", "word"]) fun _ _ _ _ _ _ us hl => match us, hl with | [_, _, _], _ => rfl
  have F_House_hear := fun_mk (st := s_hhear) l_House_hear c_House_hear k_House_hear
  have b_House_hear := F_House_hear.binds (ps := ["self", "word"]) fun _ _ _ _ _ _ us hl => match us, hl with | [_, _], _ => rfl
  have F_House_call := fun_mk (st := s_hcall) l_House_call c_House_call k_House_call
  have b_House_call := F_House_call.binds (ps := ["self", "row"]) fun _ _ _ _ _ _ us hl => match us, hl with | [_, _], _ => rfl
  have F_House_ledger := fun_mk (st := s_hledger) l_House_ledger c_House_ledger k_House_ledger
  have b_House_ledger := F_House_ledger.binds (ps := ["self"]) fun _ _ _ _ _ _ us hl => match us, hl with | [_], _ => rfl
  have F_House_backing := fun_mk (st := s_hback) l_House_backing c_House_backing k_House_backing
  have b_House_backing := F_House_backing.binds (ps := ["self", "number"]) fun _ _ _ _ _ _ us hl => match us, hl with | [_, _], _ => rfl
  have F_House_caught := fun_mk (st := s_hcaught) l_House_caught c_House_caught k_House_caught
  have b_House_caught := F_House_caught.binds (ps := ["self"]) fun _ _ _ _ _ _ us hl => match us, hl with | [_], _ => rfl
  have mM := PySem.W.mg_of X G aM
  have mL := PySem.W.mg_of X G aL
  have mML := PySem.W.mg_of X G aML
  have kd0 : Kd K mg C_BadCount 0 := ⟨X_BadCount, ⟨_, PySem.W.mg_of X G a_BadCount, kit_own (.inr rfl) i_BadCount t_BadCount s_BadCount_BadCount⟩, ⟨_, PySem.W.mg_of X G a_BadHouse, kit_own (.inl n_BadCount_BadHouse) i_BadHouse t_BadHouse s_BadCount_BadHouse⟩, ⟨_, PySem.W.mg_of X G a_BadRow, kit_own (.inl n_BadCount_BadRow) i_BadRow t_BadRow s_BadCount_BadRow⟩, ⟨_, PySem.W.mg_of X G a_BadWord, kit_own (.inl n_BadCount_BadWord) i_BadWord t_BadWord s_BadCount_BadWord⟩, ⟨_, PySem.W.mg_of X G a_Forged, kit_own (.inl n_BadCount_Forged) i_Forged t_Forged s_BadCount_Forged⟩, ⟨_, PySem.W.mg_of X G a_NoLetter, kit_own (.inl n_BadCount_NoLetter) i_NoLetter t_NoLetter s_BadCount_NoLetter⟩, ⟨_, PySem.W.mg_of X G a_NotWritten, kit_own (.inl n_BadCount_NotWritten) i_NotWritten t_NotWritten s_BadCount_NotWritten⟩, ⟨_, PySem.W.mg_of X G a_NoText, kit_own (.inl n_BadCount_NoText) i_NoText t_NoText s_BadCount_NoText⟩, kit_val xv_BadCount, PySem.W.mg_none_of X G zV⟩
  have kd1 : Kd K mg C_BadHouse 1 := ⟨X_BadHouse, ⟨_, PySem.W.mg_of X G a_BadCount, kit_own (.inl n_BadHouse_BadCount) i_BadCount t_BadCount s_BadHouse_BadCount⟩, ⟨_, PySem.W.mg_of X G a_BadHouse, kit_own (.inr rfl) i_BadHouse t_BadHouse s_BadHouse_BadHouse⟩, ⟨_, PySem.W.mg_of X G a_BadRow, kit_own (.inl n_BadHouse_BadRow) i_BadRow t_BadRow s_BadHouse_BadRow⟩, ⟨_, PySem.W.mg_of X G a_BadWord, kit_own (.inl n_BadHouse_BadWord) i_BadWord t_BadWord s_BadHouse_BadWord⟩, ⟨_, PySem.W.mg_of X G a_Forged, kit_own (.inl n_BadHouse_Forged) i_Forged t_Forged s_BadHouse_Forged⟩, ⟨_, PySem.W.mg_of X G a_NoLetter, kit_own (.inl n_BadHouse_NoLetter) i_NoLetter t_NoLetter s_BadHouse_NoLetter⟩, ⟨_, PySem.W.mg_of X G a_NotWritten, kit_own (.inl n_BadHouse_NotWritten) i_NotWritten t_NotWritten s_BadHouse_NotWritten⟩, ⟨_, PySem.W.mg_of X G a_NoText, kit_own (.inl n_BadHouse_NoText) i_NoText t_NoText s_BadHouse_NoText⟩, kit_val xv_BadHouse, PySem.W.mg_none_of X G zV⟩
  have kd2 : Kd K mg C_BadRow 2 := ⟨X_BadRow, ⟨_, PySem.W.mg_of X G a_BadCount, kit_own (.inl n_BadRow_BadCount) i_BadCount t_BadCount s_BadRow_BadCount⟩, ⟨_, PySem.W.mg_of X G a_BadHouse, kit_own (.inl n_BadRow_BadHouse) i_BadHouse t_BadHouse s_BadRow_BadHouse⟩, ⟨_, PySem.W.mg_of X G a_BadRow, kit_own (.inr rfl) i_BadRow t_BadRow s_BadRow_BadRow⟩, ⟨_, PySem.W.mg_of X G a_BadWord, kit_own (.inl n_BadRow_BadWord) i_BadWord t_BadWord s_BadRow_BadWord⟩, ⟨_, PySem.W.mg_of X G a_Forged, kit_own (.inl n_BadRow_Forged) i_Forged t_Forged s_BadRow_Forged⟩, ⟨_, PySem.W.mg_of X G a_NoLetter, kit_own (.inl n_BadRow_NoLetter) i_NoLetter t_NoLetter s_BadRow_NoLetter⟩, ⟨_, PySem.W.mg_of X G a_NotWritten, kit_own (.inl n_BadRow_NotWritten) i_NotWritten t_NotWritten s_BadRow_NotWritten⟩, ⟨_, PySem.W.mg_of X G a_NoText, kit_own (.inl n_BadRow_NoText) i_NoText t_NoText s_BadRow_NoText⟩, kit_val xv_BadRow, PySem.W.mg_none_of X G zV⟩
  have kd3 : Kd K mg C_NotWritten 6 := ⟨X_NotWritten, ⟨_, PySem.W.mg_of X G a_BadCount, kit_own (.inl n_NotWritten_BadCount) i_BadCount t_BadCount s_NotWritten_BadCount⟩, ⟨_, PySem.W.mg_of X G a_BadHouse, kit_own (.inl n_NotWritten_BadHouse) i_BadHouse t_BadHouse s_NotWritten_BadHouse⟩, ⟨_, PySem.W.mg_of X G a_BadRow, kit_own (.inl n_NotWritten_BadRow) i_BadRow t_BadRow s_NotWritten_BadRow⟩, ⟨_, PySem.W.mg_of X G a_BadWord, kit_own (.inl n_NotWritten_BadWord) i_BadWord t_BadWord s_NotWritten_BadWord⟩, ⟨_, PySem.W.mg_of X G a_Forged, kit_own (.inl n_NotWritten_Forged) i_Forged t_Forged s_NotWritten_Forged⟩, ⟨_, PySem.W.mg_of X G a_NoLetter, kit_own (.inl n_NotWritten_NoLetter) i_NoLetter t_NoLetter s_NotWritten_NoLetter⟩, ⟨_, PySem.W.mg_of X G a_NotWritten, kit_own (.inr rfl) i_NotWritten t_NotWritten s_NotWritten_NotWritten⟩, ⟨_, PySem.W.mg_of X G a_NoText, kit_own (.inl n_NotWritten_NoText) i_NoText t_NoText s_NotWritten_NoText⟩, kit_val xv_NotWritten, PySem.W.mg_none_of X G zV⟩
  have hx_BadCount := exm_own bH i_HouseError t_HouseError s_BadCount_HouseError
  have hx_BadHouse := exm_own bH i_HouseError t_HouseError s_BadHouse_HouseError
  have hx_BadRow := exm_own bH i_HouseError t_HouseError s_BadRow_HouseError
  have hx_NotWritten := exm_own bH i_HouseError t_HouseError s_NotWritten_HouseError
  have hc : HouseC K C_House := ⟨cl_House, na_House_wanted, na_House_count, na_House_own, na_House_known, na_House_marked, na_House_written, na_House_named, na_House_calls⟩
  refine ⟨PySem.W.fnOf "law" "law" (defArgs s_law) (defBody s_law) (defScope s_law) .none kV_law dc_law pm_law an_law cd_law ct_law, cT, PT, lamH, hPT, hLP, hCH, fun s v => .of_eq rfl, fun base _ _ TB => ?_⟩
  have p_is_among : Pfn l.prog w K mg base "is_among" 1 g_among := ⟨⟨f_is_among, _, _, m_is_among, k_is_among, b_is_among, ok_among F_is_among bl⟩⟩
  have p_need_count : Pfn l.prog w K mg base "need_count" 2 (gC C_BadCount fun _ => .none) := ⟨⟨f_need_count, _, _, m_need_count, k_need_count, b_need_count, ok_need F_need_count bl mM p_is_among E_BadCount⟩⟩
  have p_most_liars : Pfn l.prog w K mg base "most_liars" 3 (gC C_BadCount fun n => .int (mostL n)) := ⟨⟨f_most_liars, _, _, m_most_liars, k_most_liars, b_most_liars, ok_most F_most_liars bl p_need_count⟩⟩
  have p_enough : Pfn l.prog w K mg base "enough" 4 (gC C_BadCount fun n => .int (enoughL n)) := ⟨⟨f_enough, _, _, m_enough, k_enough, b_enough, ok_enough F_enough bl p_most_liars⟩⟩
  have p_is_row : Pfn l.prog w K mg base "is_row" 1 g_row := ⟨⟨f_is_row, _, _, m_is_row, k_is_row, b_is_row, ok_isrow F_is_row bl mL mML⟩⟩
  have p_are_unlike : Pfn l.prog w K mg base "are_unlike" 1 g_unlike := ⟨⟨f_are_unlike, _, _, m_are_unlike, k_are_unlike, b_are_unlike, ok_unlike F_are_unlike bl⟩⟩
  have p_House_init : ClsM l.prog w K mg base "House" C_House 5 (g_hinit C_House C_BadCount C_BadHouse) := ⟨⟨f_House_init, _, _, ⟨mk_House, a_House_init, f_House_init_, kp_House⟩, PySem.W.mg_of X G a_House, b_House_init, ok_hinit F_House_init bl hc p_enough p_is_among E_BadHouse⟩⟩
  have p_House_marks : MtdM l.prog w K mg base C_House "marks" 4 (g_marks C_House PT) := ⟨⟨f_House_marks, _, _, cl_House, ⟨a_House_marks, f_House_marks_, k_House_marks⟩, b_House_marks, ok_hmarks l_House_marks c_House_marks bl hc TB⟩⟩
  have p_House_write : MtdM l.prog w K mg base C_House "write" 5 (g_write C_House PT) := ⟨⟨f_House_write, _, _, cl_House, ⟨a_House_write, f_House_write_, k_House_write⟩, b_House_write, ok_hwrite F_House_write bl hc p_House_marks⟩⟩
  have p_House_name : MtdM l.prog w K mg base C_House "name" 2 (g_name C_House PT) := ⟨⟨f_House_name, _, _, cl_House, ⟨a_House_name, f_House_name_, k_House_name⟩, b_House_name, ok_hname F_House_name bl hc p_are_unlike⟩⟩
  have p_House_hear : MtdM l.prog w K mg base C_House "hear" 6 (g_hear C_House PT) := ⟨⟨f_House_hear, _, _, cl_House, ⟨a_House_hear, f_House_hear_, k_House_hear⟩, b_House_hear, ok_hhear F_House_hear bl hc p_House_write p_House_name⟩⟩
  have p_House_call : MtdM l.prog w K mg base C_House "call" 7 (g_hcall C_House PT C_BadRow) := ⟨⟨f_House_call, _, _, cl_House, ⟨a_House_call, f_House_call_, k_House_call⟩, b_House_call, ok_hcall F_House_call bl hc p_is_row p_House_hear E_BadRow⟩⟩
  have p_House_ledger : MtdM l.prog w K mg base C_House "ledger" 1 (g_ledger C_House) := ⟨⟨f_House_ledger, _, _, cl_House, ⟨a_House_ledger, f_House_ledger_, k_House_ledger⟩, b_House_ledger, ok_hledger F_House_ledger bl hc⟩⟩
  have p_House_backing : MtdM l.prog w K mg base C_House "backing" 2 (g_hback C_House C_NotWritten) := ⟨⟨f_House_backing, _, _, cl_House, ⟨a_House_backing, f_House_backing_, k_House_backing⟩, b_House_backing, ok_hback F_House_backing bl hc p_is_among E_NotWritten⟩⟩
  have p_House_caught : MtdM l.prog w K mg base C_House "caught" 1 (g_caught C_House) := ⟨⟨f_House_caught, _, _, cl_House, ⟨a_House_caught, f_House_caught_, k_House_caught⟩, b_House_caught, ok_hcaught F_House_caught bl hc⟩⟩
  have p_law_at : Pfn l.prog w K mg base "_law_at" 1 g_at := ⟨⟨f_law_at, _, _, m_law_at, k_law_at, b_law_at, ok_lat F_law_at bl⟩⟩
  have p_law_sign : Pfn l.prog w K mg base "_law_sign" 1 g_sign := ⟨⟨f_law_sign, _, _, m_law_sign, k_law_sign, b_law_sign, ok_sign F_law_sign bl⟩⟩
  have p_law_row : Pfn l.prog w K mg base "_law_row" 1 g_rowf := ⟨⟨f_law_row, _, _, m_law_row, k_law_row, b_law_row, ok_rowf F_law_row bl⟩⟩
  have p_law_made : PfmM l.prog w K mg base "_law_made" 7 g_made := ⟨⟨f_law_made, _, _, m_law_made, k_law_made, b_law_made, ok_made F_law_made bl p_House_init (ok_kind F_law_kind bl kd0 kd1 kd2 kd3) m_law_kind k_law_kind b_law_kind (PySem.W.mg_of X G a_HouseError) hx_BadCount hx_BadHouse⟩⟩
  have p_law_asked : PfmM l.prog w K mg base "_law_asked" 9 (g_asked C_House PT) := ⟨⟨f_law_asked, _, _, m_law_asked, k_law_asked, b_law_asked, ok_asked F_law_asked bl p_House_call p_House_backing (ok_kind F_law_kind bl kd0 kd1 kd2 kd3) m_law_kind k_law_kind b_law_kind (PySem.W.mg_of X G a_HouseError) hx_BadRow hx_NotWritten⟩⟩
  exact ok_law F_law bl p_law_at p_law_sign p_law_row p_law_made p_law_asked p_House_init p_House_call p_House_hear p_House_ledger p_House_caught
end K7
open PySem PySem.W PyProof.Rows
set_option maxRecDepth 100000 in
set_option maxHeartbeats 0 in
theorem PySem.Challenge.cw_latehouse_k07_houses_refused_holds : PySem.Challenge.rw_latehouse_k07_houses_refused.Holds := by
  w_on
  o_law
  k_head
  (case hw => w_witness2)
  k_fill
  refine Dv.walkT (l := PySem.Challenge.rw_latehouse_k07_houses_refused) (k := 10) (x := "_law_script") _ rfl rfl ⟨rfl, by decide, by decide⟩ (fun w h Y => PySem.W.km_in_of Y) (fun w h Y => PySem.W.km_tabs_of Y) ?F
  case F =>
    intro w mg fa h KX G hmg
    refine' K7.fin KX G hmg ?a_is_among ?l_is_among ?c_is_among ?k_is_among ?a_need_count ?l_need_count ?c_need_count ?k_need_count ?a_most_liars ?l_most_liars ?c_most_liars ?k_most_liars ?a_enough ?l_enough ?c_enough ?k_enough ?a_is_row ?l_is_row ?c_is_row ?k_is_row ?a_are_unlike ?l_are_unlike ?c_are_unlike ?k_are_unlike ?a_law_at ?l_law_at ?c_law_at ?k_law_at ?a_law_sign ?l_law_sign ?c_law_sign ?k_law_sign ?a_law_row ?l_law_row ?c_law_row ?k_law_row ?a_law_kind ?l_law_kind ?c_law_kind ?k_law_kind ?a_law_made ?l_law_made ?c_law_made ?k_law_made ?a_law_asked ?l_law_asked ?c_law_asked ?k_law_asked ?a_law ?l_law ?c_law ?k_law ?a_House ?mk_House ?kp_House ?pg_House ?hd_House ?po_House ?sa_House ?na_House_wanted ?na_House_count ?na_House_own ?na_House_known ?na_House_marked ?na_House_written ?na_House_named ?na_House_calls ?a_House_init ?f_House_init_ ?l_House_init ?c_House_init ?k_House_init ?a_House_marks ?f_House_marks_ ?l_House_marks ?c_House_marks ?k_House_marks ?a_House_write ?f_House_write_ ?l_House_write ?c_House_write ?k_House_write ?a_House_name ?f_House_name_ ?l_House_name ?c_House_name ?k_House_name ?a_House_hear ?f_House_hear_ ?l_House_hear ?c_House_hear ?k_House_hear ?a_House_call ?f_House_call_ ?l_House_call ?c_House_call ?k_House_call ?a_House_ledger ?f_House_ledger_ ?l_House_ledger ?c_House_ledger ?k_House_ledger ?a_House_backing ?f_House_backing_ ?l_House_backing ?c_House_backing ?k_House_backing ?a_House_caught ?f_House_caught_ ?l_House_caught ?c_House_caught ?k_House_caught ?z_len ?z_isinstance ?z_int ?z_str ?z_bool ?z_tuple ?z_list ?z_dict ?z_abs ?z_min ?z_max ?z_range ?z_sorted ?z_set ?z_enumerate ?a_HouseError ?t_HouseError ?i_HouseError ?a_BadCount ?t_BadCount ?i_BadCount ?a_BadHouse ?t_BadHouse ?i_BadHouse ?a_BadRow ?t_BadRow ?i_BadRow ?a_BadWord ?t_BadWord ?i_BadWord ?a_Forged ?t_Forged ?i_Forged ?a_NoLetter ?t_NoLetter ?i_NoLetter ?a_NotWritten ?t_NotWritten ?i_NotWritten ?a_NoText ?t_NoText ?i_NoText ?q_BadCount ?kp_BadCount ?b_BadCount ?q_BadHouse ?kp_BadHouse ?b_BadHouse ?q_BadRow ?kp_BadRow ?b_BadRow ?q_NotWritten ?kp_NotWritten ?b_NotWritten ?xg_BadCount ?xk_BadCount ?xd_BadCount ?xa_BadCount ?xm_BadCount ?xv_BadCount ?xg_BadHouse ?xk_BadHouse ?xd_BadHouse ?xa_BadHouse ?xm_BadHouse ?xv_BadHouse ?xg_BadRow ?xk_BadRow ?xd_BadRow ?xa_BadRow ?xm_BadRow ?xv_BadRow ?xg_NotWritten ?xk_NotWritten ?xd_NotWritten ?xa_NotWritten ?xm_NotWritten ?xv_NotWritten ?xn ?xt ?s_BadCount_BadCount ?s_BadCount_BadHouse ?n_BadCount_BadHouse ?s_BadCount_BadRow ?n_BadCount_BadRow ?s_BadCount_BadWord ?n_BadCount_BadWord ?s_BadCount_Forged ?n_BadCount_Forged ?s_BadCount_NoLetter ?n_BadCount_NoLetter ?s_BadCount_NotWritten ?n_BadCount_NotWritten ?s_BadCount_NoText ?n_BadCount_NoText ?s_BadHouse_BadCount ?n_BadHouse_BadCount ?s_BadHouse_BadHouse ?s_BadHouse_BadRow ?n_BadHouse_BadRow ?s_BadHouse_BadWord ?n_BadHouse_BadWord ?s_BadHouse_Forged ?n_BadHouse_Forged ?s_BadHouse_NoLetter ?n_BadHouse_NoLetter ?s_BadHouse_NotWritten ?n_BadHouse_NotWritten ?s_BadHouse_NoText ?n_BadHouse_NoText ?s_BadRow_BadCount ?n_BadRow_BadCount ?s_BadRow_BadHouse ?n_BadRow_BadHouse ?s_BadRow_BadRow ?s_BadRow_BadWord ?n_BadRow_BadWord ?s_BadRow_Forged ?n_BadRow_Forged ?s_BadRow_NoLetter ?n_BadRow_NoLetter ?s_BadRow_NotWritten ?n_BadRow_NotWritten ?s_BadRow_NoText ?n_BadRow_NoText ?s_NotWritten_BadCount ?n_NotWritten_BadCount ?s_NotWritten_BadHouse ?n_NotWritten_BadHouse ?s_NotWritten_BadRow ?n_NotWritten_BadRow ?s_NotWritten_BadWord ?n_NotWritten_BadWord ?s_NotWritten_Forged ?n_NotWritten_Forged ?s_NotWritten_NoLetter ?n_NotWritten_NoLetter ?s_NotWritten_NotWritten ?s_NotWritten_NoText ?n_NotWritten_NoText ?s_BadCount_HouseError ?s_BadHouse_HouseError ?s_BadRow_HouseError ?s_NotWritten_HouseError ?aM ?aL ?aML ?zV ?bH ?hPT ?hLP ?hCH
    (case a_is_among => k_is)
    (case l_is_among => k_is)
    (case c_is_among => k_is)
    (case k_is_among => k_is)
    (case a_need_count => k_is)
    (case l_need_count => k_is)
    (case c_need_count => k_is)
    (case k_need_count => k_is)
    (case a_most_liars => k_is)
    (case l_most_liars => k_is)
    (case c_most_liars => k_is)
    (case k_most_liars => k_is)
    (case a_enough => k_is)
    (case l_enough => k_is)
    (case c_enough => k_is)
    (case k_enough => k_is)
    (case a_is_row => k_is)
    (case l_is_row => k_is)
    (case c_is_row => k_is)
    (case k_is_row => k_is)
    (case a_are_unlike => k_is)
    (case l_are_unlike => k_is)
    (case c_are_unlike => k_is)
    (case k_are_unlike => k_is)
    (case a_law_at => k_is)
    (case l_law_at => k_is)
    (case c_law_at => k_is)
    (case k_law_at => k_is)
    (case a_law_sign => k_is)
    (case l_law_sign => k_is)
    (case c_law_sign => k_is)
    (case k_law_sign => k_is)
    (case a_law_row => k_is)
    (case l_law_row => k_is)
    (case c_law_row => k_is)
    (case k_law_row => k_is)
    (case a_law_kind => k_is)
    (case l_law_kind => k_is)
    (case c_law_kind => k_is)
    (case k_law_kind => k_is)
    (case a_law_made => k_is)
    (case l_law_made => k_is)
    (case c_law_made => k_is)
    (case k_law_made => k_is)
    (case a_law_asked => k_is)
    (case l_law_asked => k_is)
    (case c_law_asked => k_is)
    (case k_law_asked => k_is)
    (case a_law => k_is)
    (case l_law => k_is)
    (case c_law => k_is)
    (case k_law => k_is)
    (case a_House => k_is)
    (case mk_House => k_is)
    (case kp_House => k_is)
    (case pg_House => k_is)
    (case hd_House => k_is)
    (case po_House => k_is)
    (case sa_House => k_is)
    (case na_House_wanted => k_is)
    (case na_House_count => k_is)
    (case na_House_own => k_is)
    (case na_House_known => k_is)
    (case na_House_marked => k_is)
    (case na_House_written => k_is)
    (case na_House_named => k_is)
    (case na_House_calls => k_is)
    (case a_House_init => k_is)
    (case f_House_init_ => k_is)
    (case l_House_init => k_is)
    (case c_House_init => k_is)
    (case k_House_init => k_is)
    (case a_House_marks => k_is)
    (case f_House_marks_ => k_is)
    (case l_House_marks => k_is)
    (case c_House_marks => k_is)
    (case k_House_marks => k_is)
    (case a_House_write => k_is)
    (case f_House_write_ => k_is)
    (case l_House_write => k_is)
    (case c_House_write => k_is)
    (case k_House_write => k_is)
    (case a_House_name => k_is)
    (case f_House_name_ => k_is)
    (case l_House_name => k_is)
    (case c_House_name => k_is)
    (case k_House_name => k_is)
    (case a_House_hear => k_is)
    (case f_House_hear_ => k_is)
    (case l_House_hear => k_is)
    (case c_House_hear => k_is)
    (case k_House_hear => k_is)
    (case a_House_call => k_is)
    (case f_House_call_ => k_is)
    (case l_House_call => k_is)
    (case c_House_call => k_is)
    (case k_House_call => k_is)
    (case a_House_ledger => k_is)
    (case f_House_ledger_ => k_is)
    (case l_House_ledger => k_is)
    (case c_House_ledger => k_is)
    (case k_House_ledger => k_is)
    (case a_House_backing => k_is)
    (case f_House_backing_ => k_is)
    (case l_House_backing => k_is)
    (case c_House_backing => k_is)
    (case k_House_backing => k_is)
    (case a_House_caught => k_is)
    (case f_House_caught_ => k_is)
    (case l_House_caught => k_is)
    (case c_House_caught => k_is)
    (case k_House_caught => k_is)
    (case z_len => k_is)
    (case z_isinstance => k_is)
    (case z_int => k_is)
    (case z_str => k_is)
    (case z_bool => k_is)
    (case z_tuple => k_is)
    (case z_list => k_is)
    (case z_dict => k_is)
    (case z_abs => k_is)
    (case z_min => k_is)
    (case z_max => k_is)
    (case z_range => k_is)
    (case z_sorted => k_is)
    (case z_set => k_is)
    (case z_enumerate => k_is)
    (case a_HouseError => k_is)
    (case t_HouseError => k_is)
    (case i_HouseError => k_is)
    (case a_BadCount => k_is)
    (case t_BadCount => k_is)
    (case i_BadCount => k_is)
    (case a_BadHouse => k_is)
    (case t_BadHouse => k_is)
    (case i_BadHouse => k_is)
    (case a_BadRow => k_is)
    (case t_BadRow => k_is)
    (case i_BadRow => k_is)
    (case a_BadWord => k_is)
    (case t_BadWord => k_is)
    (case i_BadWord => k_is)
    (case a_Forged => k_is)
    (case t_Forged => k_is)
    (case i_Forged => k_is)
    (case a_NoLetter => k_is)
    (case t_NoLetter => k_is)
    (case i_NoLetter => k_is)
    (case a_NotWritten => k_is)
    (case t_NotWritten => k_is)
    (case i_NotWritten => k_is)
    (case a_NoText => k_is)
    (case t_NoText => k_is)
    (case i_NoText => k_is)
    (case q_BadCount => k_exc)
    (case kp_BadCount => k_is)
    (case b_BadCount => k_is)
    (case q_BadHouse => k_exc)
    (case kp_BadHouse => k_is)
    (case b_BadHouse => k_is)
    (case q_BadRow => k_exc)
    (case kp_BadRow => k_is)
    (case b_BadRow => k_is)
    (case q_NotWritten => k_exc)
    (case kp_NotWritten => k_is)
    (case b_NotWritten => k_is)
    (case xg_BadCount => k_is)
    (case xk_BadCount => k_is)
    (case xd_BadCount => k_is)
    (case xa_BadCount => k_is)
    (case xm_BadCount => k_is)
    (case xv_BadCount => k_is)
    (case xg_BadHouse => k_is)
    (case xk_BadHouse => k_is)
    (case xd_BadHouse => k_is)
    (case xa_BadHouse => k_is)
    (case xm_BadHouse => k_is)
    (case xv_BadHouse => k_is)
    (case xg_BadRow => k_is)
    (case xk_BadRow => k_is)
    (case xd_BadRow => k_is)
    (case xa_BadRow => k_is)
    (case xm_BadRow => k_is)
    (case xv_BadRow => k_is)
    (case xg_NotWritten => k_is)
    (case xk_NotWritten => k_is)
    (case xd_NotWritten => k_is)
    (case xa_NotWritten => k_is)
    (case xm_NotWritten => k_is)
    (case xv_NotWritten => k_is)
    (case xn => k_is)
    (case xt => k_is)
    (case s_BadCount_BadCount => first | rfl | k_is)
    (case s_BadCount_BadHouse => first | rfl | k_is)
    (case n_BadCount_BadHouse => rfl)
    (case s_BadCount_BadRow => first | rfl | k_is)
    (case n_BadCount_BadRow => rfl)
    (case s_BadCount_BadWord => first | rfl | k_is)
    (case n_BadCount_BadWord => rfl)
    (case s_BadCount_Forged => first | rfl | k_is)
    (case n_BadCount_Forged => rfl)
    (case s_BadCount_NoLetter => first | rfl | k_is)
    (case n_BadCount_NoLetter => rfl)
    (case s_BadCount_NotWritten => first | rfl | k_is)
    (case n_BadCount_NotWritten => rfl)
    (case s_BadCount_NoText => first | rfl | k_is)
    (case n_BadCount_NoText => rfl)
    (case s_BadHouse_BadCount => first | rfl | k_is)
    (case n_BadHouse_BadCount => rfl)
    (case s_BadHouse_BadHouse => first | rfl | k_is)
    (case s_BadHouse_BadRow => first | rfl | k_is)
    (case n_BadHouse_BadRow => rfl)
    (case s_BadHouse_BadWord => first | rfl | k_is)
    (case n_BadHouse_BadWord => rfl)
    (case s_BadHouse_Forged => first | rfl | k_is)
    (case n_BadHouse_Forged => rfl)
    (case s_BadHouse_NoLetter => first | rfl | k_is)
    (case n_BadHouse_NoLetter => rfl)
    (case s_BadHouse_NotWritten => first | rfl | k_is)
    (case n_BadHouse_NotWritten => rfl)
    (case s_BadHouse_NoText => first | rfl | k_is)
    (case n_BadHouse_NoText => rfl)
    (case s_BadRow_BadCount => first | rfl | k_is)
    (case n_BadRow_BadCount => rfl)
    (case s_BadRow_BadHouse => first | rfl | k_is)
    (case n_BadRow_BadHouse => rfl)
    (case s_BadRow_BadRow => first | rfl | k_is)
    (case s_BadRow_BadWord => first | rfl | k_is)
    (case n_BadRow_BadWord => rfl)
    (case s_BadRow_Forged => first | rfl | k_is)
    (case n_BadRow_Forged => rfl)
    (case s_BadRow_NoLetter => first | rfl | k_is)
    (case n_BadRow_NoLetter => rfl)
    (case s_BadRow_NotWritten => first | rfl | k_is)
    (case n_BadRow_NotWritten => rfl)
    (case s_BadRow_NoText => first | rfl | k_is)
    (case n_BadRow_NoText => rfl)
    (case s_NotWritten_BadCount => first | rfl | k_is)
    (case n_NotWritten_BadCount => rfl)
    (case s_NotWritten_BadHouse => first | rfl | k_is)
    (case n_NotWritten_BadHouse => rfl)
    (case s_NotWritten_BadRow => first | rfl | k_is)
    (case n_NotWritten_BadRow => rfl)
    (case s_NotWritten_BadWord => first | rfl | k_is)
    (case n_NotWritten_BadWord => rfl)
    (case s_NotWritten_Forged => first | rfl | k_is)
    (case n_NotWritten_Forged => rfl)
    (case s_NotWritten_NoLetter => first | rfl | k_is)
    (case n_NotWritten_NoLetter => rfl)
    (case s_NotWritten_NotWritten => first | rfl | k_is)
    (case s_NotWritten_NoText => first | rfl | k_is)
    (case n_NotWritten_NoText => rfl)
    (case s_BadCount_HouseError => first | rfl | k_is)
    (case s_BadHouse_HouseError => first | rfl | k_is)
    (case s_BadRow_HouseError => first | rfl | k_is)
    (case s_NotWritten_HouseError => first | rfl | k_is)
    (case aM => k_is)
    (case aL => k_is)
    (case aML => k_is)
    (case zV => k_is)
    (case bH => k_is)
    (case hPT => exact List.mem_cons_self)
    (case hLP => kernel_rfl)
    (case hCH => kernel_rfl)
end Law
