import PyProof.Rows.All
import Wide.All
import OpenK.AllK
import Wide.FinOn
import HandS.ForMost
import HandS.Evl
import HandS.IsInst
import HandS.Defaults
import HandS.HeadHook2
import HandS.ExcInit
import HandS.Walk
import HandS.ForExc
import HandS.Style
import HandS.SortKw
import HandS.Strs
import HandS.Wide
import KE.SortData
import HandS.Set
import HandS.SetBool
import HandS.SetKeys
import HandS.Conv
import KE.KDictSum
import KE.KDictList
import HandS.DictComp
import KE.KeyNested
import HandS.Dict
import KE.DataCmp
import KE.DataEq
import HandS.Deep
import HandS.TupAny
import HandS.Text
import HandS.NoneIn
import KE.KRevSl
import KE.KStateDown
import Lean
import HandS.HeadHook4
import HandS.ExcIs
import HandS.ExcField
import HandS.Head0
import HandS.Head1
import HandS.Head2
import HandS.HeadEnd
import PySem.Challenge.RW_holdtogether_k21_what_goes_along
import KE.DatumOrd
import HandS.TupSets
import KE.SortLaws
import PyProof.WalkInts
import PyProof.FString5
import HandS.Call
import HandS.ExcOwn
import HandS.Rev
import HandS.RevTup
import KE.KSortTupAny
import KE.KExcIs
import HandS.HotCalls
import HandS.ExcInitHot
import HandS.SetFor
import PyProof.TupleOfSeq
import HandS.RevRange
set_option Elab.async false
set_option linter.all false
set_option maxRecDepth 100000
set_option maxHeartbeats 4000000
namespace Hx
open PySem PySem.Spec PyProof.Rows L2
abbrev Ex := Evl.Ex
/-! ### what a called def gives -/
structure Cal (P : Program) (w : World) (K : PySem.W.Frag) (mg : Str → Option Value) (base : Heap) (CX : CXT) (k : Nat) (x : Str) (ps : List Str) (sp : Sp) : Prop where
  g : mg x = some (.ref (He.ga K x))
  ex : ∃ fd, PySem.W.keepIn K (.ref (He.ga K x)) = true ∧ FnOk P w K mg base CX k (He.ga K x) fd ps sp ∧ Binds K fd ps []
section
variable {X : Cx}
theorem pe_cal {CX : CXT} {k : Nat} {x : Str} {ps : List Str} {sp : Sp} {E : XK} {p pos : Pos} {e : Expr} {es : List Expr} {t : TA} (C : Cal X.prog X.w X.K X.mg X.base CX k x ps sp) (hr : Room k X.A) (hx : Passes CX X E)
    (ha : PA X (e :: es) t) (hg : Gl X x := by rfl) (hdb : (x == ("__debug__" : Str)) = false := by decide) (he : starEach (e :: es) X.env = (false, eval e X.env) :: starEach es X.env := by rfl) (hpl : (backTo pos (starEach es X.env)).any (·.1) = false := by rfl) :
    PE X (.Call (.Name x p) (e :: es) [] pos) (tCall sp [] E t) := by
  obtain ⟨fd, kp, F, b⟩ := C.ex
  exact pe_call F hr hg C.g kp b .nil hx ha hdb he hpl
end
/-! ### heaps -/
theorem ex_dp {K : PySem.W.Frag} {H H' : Hp} (e : Ex H H') : ∀ (d : PyData) (v : V), Dp K H v d → Dp K H' v d := by
  intro d
  refine PyData.rec (motive_1 := fun d => ∀ v, Dp K H v d → Dp K H' v d) (motive_2 := fun ds => ∀ vs, DpAll K H vs ds → DpAll K H' vs ds) (motive_3 := fun _ => True) (motive_4 := fun _ => True) ?_ ?_ ?_ ?_ ?_ ?_ ?_ ?_ ?_ ?_ ?_ ?_ d
  · intro v h; cases h; exact .non
  · intro b v h; cases h; exact .bl b
  · intro i v h; cases h; exact .int i
  · intro x v h; cases h; exact .str x
  · intro xs ih v h
    cases h with
    | lst hs ha => exact .lst (Evl.ex_l e hs) (ih _ ha)
  · intro xs ih v h
    cases h with
    | tup hs ha => exact .tup (Evl.ex_t e hs) (ih _ ha)
  · intro kvs _ v h; cases h
  · intro vs h; cases h; exact .nil
  · intro d ds ih ihs vs h
    cases h with
    | cons h1 h2 => exact .cons (ih _ h1) (ihs _ h2)
  · trivial
  · intros; trivial
  · intros; trivial
theorem ex_dpa {K : PySem.W.Frag} {H H' : Hp} (e : Ex H H') : ∀ {ds : List PyData} {vs : List V}, DpAll K H vs ds → DpAll K H' vs ds
  | [], _, h => by cases h; exact .nil
  | d :: ds, _, h => by
    cases h with
    | cons h1 h2 => exact .cons (ex_dp e d _ h1) (ex_dpa e h2)
section
variable {K : PySem.W.Frag} {H H' : Hp}
theorem dpa_len : ∀ {ds : List PyData} {vs : List V}, DpAll K H vs ds → vs.length = ds.length
  | [], _, h => by cases h; rfl
  | d :: ds, _, h => by
    cases h with
    | cons h1 h2 => exact congrArg Nat.succ (dpa_len h2)
theorem dpa_get : ∀ {ds : List PyData} {vs : List V}, DpAll K H vs ds → ∀ {i : Nat} {v : V}, vs[i]? = some v → ∃ d, ds[i]? = some d ∧ Dp K H v d
  | [], _, h, i, v, e => by cases h; simp at e
  | d :: ds, _, h, i, v, e => by
    cases h with
    | cons h1 h2 =>
      cases i with
      | zero =>
        have e' := Option.some.inj (show some _ = some v from by simpa using e)
        subst e'
        exact ⟨d, by simp, h1⟩
      | succ i =>
        obtain ⟨d', a, b⟩ := dpa_get h2 (i := i) (v := v) (by simpa using e)
        exact ⟨d', by simpa using a, b⟩
theorem dpa_get' : ∀ {ds : List PyData} {vs : List V}, DpAll K H vs ds → ∀ {i : Nat} {d : PyData}, ds[i]? = some d → ∃ v, vs[i]? = some v ∧ Dp K H v d := by
  intro ds vs h i d e
  have hl := dpa_len h
  have hi : i < ds.length := (List.getElem?_eq_some_iff.mp e).1
  obtain ⟨d', a, b⟩ := dpa_get h (i := i) (v := vs[i]'(by omega)) (by simp)
  rw [e] at a; cases a
  exact ⟨_, by simp, b⟩
theorem dpa_app : ∀ {ds es : List PyData} {vs us : List V}, DpAll K H vs ds → DpAll K H us es → DpAll K H (vs ++ us) (ds ++ es)
  | [], _, _, _, h, k => by cases h; exact k
  | d :: ds, _, _, _, h, k => by
    cases h with
    | cons h1 h2 => exact .cons h1 (dpa_app h2 k)
theorem dpa_of {ds : List PyData} {vs : List V} (hl : vs.length = ds.length) (h : ∀ (i : Nat) (v : V) (d : PyData), vs[i]? = some v → ds[i]? = some d → Dp K H v d) : DpAll K H vs ds := by
  induction vs generalizing ds with
  | nil => cases ds with
    | nil => exact .nil
    | cons _ _ => cases hl
  | cons v vs ih => cases ds with
    | nil => cases hl
    | cons d ds => exact .cons (h 0 v d rfl rfl) (ih (Nat.succ.inj hl) fun i v d a b => h (i + 1) v d (by simpa using a) (by simpa using b))
theorem dp_list {v : V} {ds : List PyData} (h : Dp K H v (.list ds)) : ∃ a xs, v = .ref a ∧ SqL K H a xs ∧ DpAll K H xs ds := by
  cases h with
  | lst hs ha => exact ⟨_, _, rfl, hs, ha⟩
theorem dp_tup {v : V} {ds : List PyData} (h : Dp K H v (.tuple ds)) : ∃ a xs, v = .ref a ∧ SqT K H a xs ∧ DpAll K H xs ds := by
  cases h with
  | tup hs ha => exact ⟨_, _, rfl, hs, ha⟩
theorem dpa_ints : ∀ (ns : List Int), DpAll K H (ns.map V.int) (ns.map PyData.int)
  | [] => .nil
  | n :: ns => .cons (.int n) (dpa_ints ns)
theorem dpa_ints' : ∀ {ns : List Int} {vs : List V}, DpAll K H vs (ns.map PyData.int) → vs = ns.map V.int
  | [], _, h => by cases h; rfl
  | n :: ns, _, h => by
    cases h with
    | cons h1 h2 => cases h1; rw [dpa_ints' h2]; rfl
end
/-! ### types -/
def tyN : PyData → String
  | .none => "NoneType"
  | .bool _ => "bool"
  | .int _ => "int"
  | .str _ => "str"
  | .list _ => "list"
  | .tuple _ => "tuple"
  | .dict _ => "dict"
theorem ty_l {K : PySem.W.Frag} {H : Hp} {a : Addr} {xs : List V} (h : SqL K H a xs) : TyX K H (.ref a) (.type "list") := by
  rcases h with (h | ⟨o, h⟩) | ⟨o, its, n, hk, hc, _⟩
  · exact .base (.lst h)
  · exact .base (.frz h)
  · exact .kList hk hc
theorem ty_t {K : PySem.W.Frag} {H : Hp} {a : Addr} {xs : List V} (h : SqT K H a xs) : TyX K H (.ref a) (.type "tuple") := by
  rcases h with (h | ⟨o, h⟩) | ⟨o, its, n, hk, hc, _⟩
  · exact .base (.tup h)
  · exact .fTuple h
  · exact .kTuple hk hc
theorem ty_dp {K : PySem.W.Frag} {H : Hp} {v : V} {d : PyData} (h : Dp K H v d) : TyX K H v (.type (tyN d)) := by
  cases h with
  | non => exact .base .non
  | bl b => exact .base (.bl b)
  | int i => exact .base (.int i)
  | str x => exact .base (.str x)
  | lst hs _ => exact ty_l hs
  | tup hs _ => exact ty_t hs
def isT (T : String) (d : PyData) : Bool := match d with
  | .none => false
  | .bool _ => T == "bool" || T == "int"
  | .int _ => T == "int"
  | .str _ => T == "str"
  | .list _ => T == "list"
  | .tuple _ => T == "tuple"
  | .dict _ => T == "dict"
theorem kit_int (d : PyData) : kitB (tyN d) "int" = some (isT "int" d) := by cases d <;> (dsimp only [tyN, isT]; decide +kernel)
theorem kit_bool (d : PyData) : kitB (tyN d) "bool" = some (isT "bool" d) := by cases d <;> (dsimp only [tyN, isT]; decide +kernel)
theorem kit_str (d : PyData) : kitB (tyN d) "str" = some (isT "str" d) := by cases d <;> (dsimp only [tyN, isT]; decide +kernel)
theorem kit_list (d : PyData) : kitB (tyN d) "list" = some (isT "list" d) := by cases d <;> (dsimp only [tyN, isT]; decide +kernel)
theorem kit_tup (d : PyData) : kitB (tyN d) "tuple" = some (isT "tuple" d) := by cases d <;> (dsimp only [tyN, isT]; decide +kernel)
theorem kit_dict (d : PyData) : kitB (tyN d) "dict" = some (isT "dict" d) := by cases d <;> (dsimp only [tyN, isT]; decide +kernel)
/-- isinstance(x, T) of a datum, T a built-in class -/
theorem isi_dp {K : PySem.W.Frag} {H : Hp} {v : V} {d : PyData} {T : String} {Q : VK} (h : Dp K H v d) (k : kitB (tyN d) T = some (isT T d)) (q : Q (.bl (isT T d)) H) : rIsi K [v, .ty T] H Q :=
  ⟨v, .ty T, .type (tyN d), .type T, _, rfl, .ty T, ty_dp h, kit_ty k, q⟩
/-! ### steps: G the part of the heap that stands still, M what may change besides what is new -/
structure Stp (M : Addr → Prop) (G H G' H' : Hp) : Prop where
  hh : ∀ a o, ¬ M a → H a = some o → H' a = some o
  dm : ∀ a, H' a = none → H a = none
  gg : Ex G G'
  gh : Ex G' H'
  fr : ∀ a, H a ≠ none → G a = none → G' a = none
abbrev NoM : Addr → Prop := fun _ => False
section
variable {M M' : Addr → Prop} {G H G' H' G'' H'' : Hp} {p : Addr} {o : HO} {K : PySem.W.Frag}
theorem Stp.refl (e : Ex G H) : Stp M G H G H := ⟨fun _ _ _ h => h, fun _ h => h, Evl.Ex.refl _, e, fun _ _ h => h⟩
theorem Stp.trans (a : Stp M G H G' H') (b : Stp M G' H' G'' H'') : Stp M G H G'' H'' :=
  ⟨fun x u m h => b.hh x u m (a.hh x u m h), fun x h => a.dm x (b.dm x h), a.gg.trans b.gg, b.gh, fun x h n => b.fr x (fun z => h (a.dm x z)) (a.fr x h n)⟩
theorem Stp.imp (a : Stp M G H G' H') (h : ∀ x, M x → M' x) : Stp M' G H G' H' := ⟨fun x u m => a.hh x u fun z => m (h x z), a.dm, a.gg, a.gh, a.fr⟩
theorem Stp.ex (a : Stp NoM G H G' H') : Ex H H' := fun x u h => a.hh x u (fun z => z) h
theorem Stp.unk (a : Stp M G H G' H') (h : H' p = none) : H p = none := a.dm p h
/-- nothing of G is touched -/
theorem Stp.of (e : Ex G H) (h : Ex H H') : Stp M G H G H' := ⟨fun x u _ => h x u, fun x n => Evl.fresh_back h n, Evl.Ex.refl _, e.trans h, fun _ _ n => n⟩
/-- a new object that will not change -/
theorem Stp.new (e : Ex G H) (h : H p = none) : Stp M G H (upd G p o) (upd H p o) := by
  have hg : G p = none := Evl.fresh_back e h
  refine ⟨fun x u _ q => ?_, fun x n => ?_, Evl.Ex.new hg, fun x u q => ?_, fun x q n => ?_⟩
  · rw [upd_ne (ne_of_none q h)]; exact q
  · by_cases hx : x = p
    · rw [hx, upd_same] at n; cases n
    · rw [upd_ne hx] at n; exact n
  · by_cases hx : x = p
    · rw [hx, upd_same] at q ⊢; exact q
    · rw [upd_ne hx] at q ⊢; exact e x u q
  · have hx : x ≠ p := fun z => q (by rw [z]; exact h)
    rw [upd_ne hx]; exact n
/-- a new object that may change -/
theorem Stp.lay (e : Ex G H) (h : H p = none) : Stp M G H G (upd H p o) := Stp.of e (Evl.Ex.new h)
/-- what is new since the start, or may change, changes -/
theorem Stp.mut (a : Stp M G H G' H') (h : H p = none ∨ M p) (g : G' p = none) : Stp M G H G' (upd H' p o) := by
  refine ⟨fun x u m q => ?_, fun x n => ?_, a.gg, fun x u q => ?_, a.fr⟩
  · have hx : x ≠ p := by
      rintro rfl
      rcases h with h | h
      · rw [h] at q; cases q
      · exact m h
    rw [upd_ne hx]; exact a.hh x u m q
  · by_cases hx : x = p
    · rw [hx, upd_same] at n; cases n
    · rw [upd_ne hx] at n; exact a.dm x n
  · have hx : x ≠ p := fun z => by rw [z, g] at q; cases q
    rw [upd_ne hx]; exact a.gh x u q
/-- what is new stands still from now on -/
theorem Stp.fix (a : Stp M G H G' H') (h : H p = none) (e : H' p = some o) : Stp M G H (upd G' p o) H' := by
  refine ⟨a.hh, a.dm, a.gg.trans fun x u q => ?_, fun x u q => ?_, fun x q n => ?_⟩
  · by_cases hx : x = p
    · have := a.gh x u q
      rw [hx, e] at this; rw [hx, upd_same]; exact this
    · rw [upd_ne hx]; exact q
  · by_cases hx : x = p
    · rw [hx, upd_same] at q; rw [hx, e]; exact q
    · rw [upd_ne hx] at q; exact a.gh x u q
  · have hx : x ≠ p := fun z => q (by rw [z]; exact h)
    rw [upd_ne hx]; exact a.fr x q n
theorem Stp.gn (a : Stp M G H G' H') (h : H p ≠ none) (g : G p = none) : G' p = none := a.fr p h g
theorem some_ne {H : Hp} {p : Addr} {o : HO} (h : H p = some o) : H p ≠ none := by rw [h]; exact fun z => nomatch z
end
/-! ### what an expression gives -/
abbrev Good (M : Addr → Prop) (G H : Hp) (R : V → Hp → Prop) (Q : VK) : Prop := ∀ v G2 H2, Stp M G H G2 H2 → R v G2 → Q v H2
/-- the places of a comprehension whose tests hold, each with what was made for it -/
abbrev Sel (R : Nat → V → Hp → Prop) (f : Nat → Bool) (n : Nat) (ys : List V) (G : Hp) : Prop := Paired (fun i y => R i y G) ((List.range n).filter f) ys
theorem sel_mono {R : Nat → V → Hp → Prop} (mono : ∀ i v G G', Ex G G' → R i v G → R i v G') {f : Nat → Bool} {n : Nat} {ys : List V} {G G' : Hp} (e : Ex G G') (h : Sel R f n ys G) : Sel R f n ys G' :=
  Paired.mapP h fun i y r => mono i y G G' e r
theorem paired_app {α β : Type} {F : α → β → Prop} : ∀ {as as' : List α} {bs bs' : List β}, Paired F as bs → Paired F as' bs' → Paired F (as ++ as') (bs ++ bs')
  | _, _, _, _, .nil, h => h
  | _, _, _, _, .cons r t, h => .cons r (paired_app t h)
theorem sel_yes {R : Nat → V → Hp → Prop} {f : Nat → Bool} {n : Nat} {ys : List V} {G : Hp} {y : V} (h : Sel R f n ys G) (hf : f n = true) (r : R n y G) : Sel R f (n + 1) (ys ++ [y]) G := by
  show Paired _ _ _
  rw [List.range_succ, List.filter_append, List.filter_cons, if_pos hf]
  exact paired_app h (.cons r .nil)
theorem sel_no {R : Nat → V → Hp → Prop} {f : Nat → Bool} {n : Nat} {ys : List V} {G : Hp} (h : Sel R f n ys G) (hf : f n = false) : Sel R f (n + 1) ys G := by
  show Paired _ _ _
  rw [List.range_succ, List.filter_append, List.filter_cons, if_neg (by rw [hf]; decide)]
  show Paired _ (_ ++ []) _
  rw [List.append_nil]
  exact h
theorem sel_len {R : Nat → V → Hp → Prop} {f : Nat → Bool} {n : Nat} {ys : List V} {G : Hp} (h : Sel R f n ys G) : ys.length ≤ n := by
  have := h.length
  have l := List.length_filter_le f (List.range n)
  rw [List.length_range] at l
  omega
section
variable {K : PySem.W.Frag} {M : Addr → Prop} {G H : Hp} {σ : L2.St} {g : TG} {tt : TT} {te : TE} {vs : List Nat} {Q : VK}
/-- one turn of a comprehension: what is known before it gives what is known behind it -/
structure CW (M : Addr → Prop) (G H : Hp) (R : Nat → V → Hp → Prop) (f : Nat → Bool) (D : Addr) (i : Nat) (H' : Hp) : Prop where
  ex : ∃ G' ys, Stp M G H G' H' ∧ H D = none ∧ G' D = none ∧ H' D = some (.lst ys) ∧ Sel R f i ys G'
theorem cw_0 {R : Nat → V → Hp → Prop} {f : Nat → Bool} {D : Addr} {H1 : Hp} {G1 : Hp} (a : Stp M G H G1 H1) (h : H1 D = none) : CW M G H R f D 0 (upd H1 D (.lst [])) :=
  ⟨G1, [], a.trans (Stp.lay a.gh h), a.dm _ h, Evl.fresh_back a.gh h, upd_same, .nil⟩
theorem cw_turn {R : Nat → V → Hp → Prop} (mono : ∀ i v G G', Ex G G' → R i v G → R i v G') {f : Nat → Bool} {D : Addr} {i n : Nat} {H' : Hp} {σ2 : L2.St} (c : CW M G H R f D i H') (hi : i < n) (hn : n ≤ 1000000)
    (ht : ∀ G' H', Stp M G H G' H' → ∀ Q : Bool → Hp → Prop, (∀ G2 H2, Stp M G' H' G2 H2 → Q (f i) H2) → tt σ2 H' Q)
    (he : f i = true → ∀ G' H', Stp M G H G' H' → ∀ Q : VK, Good M G' H' (R i) Q → te σ2 H' Q) (hM : ∀ D, H D = none → ¬ M D) :
    tt σ2 H' fun b H3 => if b = true then te σ2 H3 fun y H4 => ∃ acc, H4 D = some (.lst acc) ∧ acc.length < sizeLine ∧ CW M G H R f D (i + 1) (upd H4 D (.lst (acc ++ [y]))) else CW M G H R f D (i + 1) H3 := by
  obtain ⟨G', ys, a, hD, gD, hl, hs⟩ := c.ex
  refine ht G' H' a _ fun G2 H2 b => ?_
  have ab := a.trans b
  have gD2 : G2 D = none := b.fr D (some_ne hl) gD
  have hl2 : H2 D = some (.lst ys) := b.hh D _ (hM D hD) hl
  have hs2 := sel_mono mono b.gg hs
  cases hf : f i with
  | false =>
    rw [if_neg Bool.false_ne_true]
    exact ⟨G2, ys, ab, hD, gD2, hl2, sel_no hs2 hf⟩
  | true =>
    rw [if_pos rfl]
    refine he hf G2 H2 ab _ fun y G3 H3 d r => ?_
    have hl3 : H3 D = some (.lst ys) := d.hh D _ (hM D hD) hl2
    have gD3 : G3 D = none := d.fr D (some_ne hl2) gD2
    have hz := sel_len hs
    refine ⟨ys, hl3, Nat.lt_of_lt_of_le (show ys.length < 1000000 + 1 by omega) (by decide), G3, ys ++ [y], (ab.trans d).mut (.inl hD) gD3, hD, gD3, upd_same, sel_yes (sel_mono mono d.gg hs2) hf r⟩
theorem lcW {J : It} {n : Nat} {Wg : Hp → Prop} {Y : Nat → Hp → V → Hp → Prop} (w : Walk J n Wg Y) (e : Ex G H) (hWg : ∀ H', Ex G H' → Wg H') (hn : n ≤ 1000000) (R : Nat → V → Hp → Prop) (mono : ∀ i v G G', Ex G G' → R i v G → R i v G') (f : Nat → Bool) (σt : Nat → L2.St)
    (hg : ∀ i x G' H' H'', i < n → Stp M G H G' H' → Y i H' x H'' → ∀ Q : L2.St → Hp → Prop, (∀ G2 H2, Stp M G' H' G2 H2 → Q (σt i) H2) → g x (wipe σ vs) H'' Q) (hw : ∀ i, i < n → wipe (σt i) vs = wipe σ vs)
    (ht : ∀ i G' H', i < n → Stp M G H G' H' → ∀ Q : Bool → Hp → Prop, (∀ G2 H2, Stp M G' H' G2 H2 → Q (f i) H2) → tt (σt i) H' Q)
    (he : ∀ i G' H', i < n → f i = true → Stp M G H G' H' → ∀ Q : VK, Good M G' H' (R i) Q → te (σt i) H' Q) (hM : ∀ D, H D = none → ¬ M D) {D : Addr} (hD : H D = none) {Qd : Hp → Prop}
    (hd : ∀ ys G' H', Stp M G H G' H' → G' D = none → H' D = some (.lst ys) → Sel R f n ys G' → Qd H') :
    ∃ W : Nat → Nat → Hp → Prop, (∃ m, W 0 m (upd H D (.lst []))) ∧ ∀ i m H, W i m H →
      (J.stop i H ∧ Qd H) ∨ (J.go i H ∧ ∃ Nx : Hp → Prop, (∀ H', Nx H' → ∃ m', m' < m ∧ W (i + 1) m' H') ∧ ∀ x H', J.yld i H x H' → g x (wipe σ vs) H' fun σ2 H2 => wipe σ2 vs = wipe σ vs ∧ tt σ2 H2 fun b H3 =>
        if b = true then te σ2 H3 fun y H4 => ∃ acc, H4 D = some (.lst acc) ∧ acc.length < sizeLine ∧ Nx (upd H4 D (.lst (acc ++ [y]))) else Nx H3) := by
  refine lc_it w (CW M G H R f D) (cw_0 (Stp.refl e) hD) (fun i H' _ c => ?_) (fun i x H' H'' hi c y => ?_) (fun H' c => ?_)
  · obtain ⟨G', ys, a, _⟩ := c.ex
    exact hWg _ (a.gg.trans a.gh)
  · obtain ⟨G', ys, a, hD', gD, hl, hs⟩ := c.ex
    refine hg i x G' H' H'' hi a y _ fun G2 H2 b => ⟨hw i hi, ?_⟩
    refine cw_turn mono ⟨G2, ys, a.trans b, hD', b.fr D (some_ne hl) gD, b.hh D _ (hM D hD') hl, sel_mono mono b.gg hs⟩ hi hn (fun G3 H3 c => ht i G3 H3 hi c) (fun hf G3 H3 c => he i G3 H3 hi hf c) hM
  · obtain ⟨G', ys, a, hD', gD, hl, hs⟩ := c.ex
    exact hd ys G' H' a gD hl hs
/-- the target is a name -/
theorem turn_name {xs : List V} {j i : Nat} {x v : V} {G' H' H'' : Hp} {σ0 : L2.St} {Q : L2.St → Hp → Prop} (a : Stp M G H G' H') (y : YAt xs i H' x H'') (hv : xs[i]? = some v) (q : ∀ G2 H2, Stp M G' H' G2 H2 → Q (σ0.set j (some v)) H2) : gName j x σ0 H'' Q := by
  obtain ⟨rfl, e⟩ := y
  rw [hv] at e; cases e
  exact q G' H'' (Stp.refl a.gh)
theorem turn_range {f : Nat → V} {j i : Nat} {x : V} {G' H' H'' : Hp} {σ0 : L2.St} {Q : L2.St → Hp → Prop} (a : Stp M G H G' H') (y : YFn f i H' x H'') (q : ∀ G2 H2, Stp M G' H' G2 H2 → Q (σ0.set j (some (f i))) H2) : gName j x σ0 H'' Q := by
  obtain ⟨rfl, rfl⟩ := y
  exact q G' H'' (Stp.refl a.gh)
end
/-- no test -/
theorem yes_t {M : Addr → Prop} {G H : Hp} {σ : L2.St} (e : Ex G H) {Q : Bool → Hp → Prop} (q : ∀ G2 H2, Stp M G H G2 H2 → Q true H2) : tYes σ H Q := q G H (Stp.refl e)
theorem sel_all {R : Nat → V → Hp → Prop} {n : Nat} {ys : List V} {G : Hp} (h : Sel R (fun _ => true) n ys G) : ys.length = n ∧ ∀ i, i < n → ∃ y, ys[i]? = some y ∧ R i y G := by
  have e : (List.range n).filter (fun _ => true) = List.range n := List.filter_eq_self.mpr fun _ _ => rfl
  have h' : Paired (fun i y => R i y G) (List.range n) ys := by
    have := h
    unfold Sel at this
    rw [e] at this
    exact this
  have hl := h'.length
  rw [List.length_range] at hl
  refine ⟨hl.symm, fun i hi => ?_⟩
  have gen : ∀ {as : List Nat} {bs : List V}, Paired (fun i y => R i y G) as bs → ∀ {j a : Nat}, as[j]? = some a → ∃ y, bs[j]? = some y ∧ R a y G := by
    intro as bs p
    induction p with
    | nil => intro j a e; simp at e
    | cons r t ih =>
      intro j a e
      cases j with
      | zero => simp at e; subst e; exact ⟨_, by simp, r⟩
      | succ j => simpa using ih (j := j) (a := a) (by simpa using e)
  exact gen h' (by simp [hi])
end Hx
namespace Hx
open PySem PySem.Spec PyProof.Rows L2
/-! ### the layer's rules with the written part by its own letter -/
section
variable {X : Cx} {K : PySem.W.Frag}
theorem ixL (h : X.K = K := by rfl) : IxR X (rIxL K) := by subst h; exact ix_list
theorem ixT (h : X.K = K := by rfl) : IxR X (rIxT K) := by subst h; exact ix_tup
theorem ixS (h : X.K = K := by rfl) : IxR X (fun x y H Q => rIxL K x y H Q ∨ rIxT K x y H Q) := (ixL h).or (ixT h)
theorem slL (h : X.K = K := by rfl) : SlR X (rSlL K) := by subst h; exact sl_list
theorem slT (h : X.K = K := by rfl) : SlR X (rSlT K) := by subst h; exact sl_tup
theorem inL (h : X.K = K := by rfl) : OpR X (compareOp .In) (rIn K false) := by subst h; exact op_in_seq
theorem ninL (h : X.K = K := by rfl) : OpR X (compareOp .NotIn) (rIn K true) := by subst h; exact op_notIn_seq
theorem catT (h : X.K = K := by rfl) : OpR X (binaryOp .Add) (rCatT K) := by subst h; exact op_catT
abbrev rLenQ (K : PySem.W.Frag) : List V → Hp → VK → Prop := fun xs H Q => ∃ p ys, xs = [.ref p] ∧ (SqL K H p ys ∨ SqT K H p ys) ∧ Q (.int ys.length) H
theorem lenL (h : X.K = K := by rfl) : CallR X (.builtin "len") (rLenQ K) := by subst h; exact call_len_seq
abbrev rListQ (K : PySem.W.Frag) : List V → Hp → VK → Prop := fun xs H Q => ∃ p ys, xs = [.ref p] ∧ (SqL K H p ys ∨ SqT K H p ys) ∧ ∀ l, H l = none → Q (.ref l) (upd H l (.lst ys))
theorem listOf (h : X.K = K := by rfl) : CallR X (.type "list") (rListQ K) := by subst h; exact call_list_of
abbrev rTupQ (K : PySem.W.Frag) : List V → Hp → VK → Prop := fun xs H Q => ∃ p ys, xs = [.ref p] ∧ ((SqL K H p ys ∧ ∀ l, H l = none → Q (.ref l) (upd H l (.tup ys))) ∨ (SqT K H p ys ∧ Q (.ref p) H))
theorem tupOf (h : X.K = K := by rfl) : CallR X (.type "tuple") (rTupQ K) := by subst h; exact call_tuple_of
theorem isiR (h : X.K = K := by rfl) : CallR X (.builtin "isinstance") (rIsi K) := by subst h; exact call_isi
theorem allR (hc : X.calm = true) (h : X.K = K := by rfl) : CallR X (.builtin "all") (rAll K) := by subst h; exact cr_all hc
theorem anyR (hc : X.calm = true) (h : X.K = K := by rfl) : CallR X (.builtin "any") (rAny K) := by subst h; exact cr_any hc
theorem sumR (hc : X.calm = true) (h : X.K = K := by rfl) : CallR X (.builtin "sum") (rSum K) := by subst h; exact cr_sum hc
theorem sortRev (h : X.K = K := by rfl) : CallRK X (.builtin "sorted") [Str.ofString "reverse"] (rSortedKw K true [.bl true]) := by subst h; exact cr_sortedRev
theorem idxL (h : X.K = K := by rfl) : MtR X "list.index" (rIndex K) := by subst h; exact mt_index
theorem piL {tg l : Expr} {tl : TE} (hl : PE X l tl) (h : X.K = K := by rfl) : PI X tg l (iList K tl) := by subst h; exact pi_list hl
theorem piT {tg l : Expr} {tl : TE} (hl : PE X l tl) (h : X.K = K := by rfl) : PI X tg l (iTup K tl) := by subst h; exact pi_tup hl
theorem piEnum {e : Expr} {ta : TA} {p pos tpos : Pos} {elts : List Expr} {kk : Nat} (hg : Gl X "enumerate") (hm : X.mg "enumerate" = none) (ha : PA X [e] ta) (hs : starEach [e] X.env = [(false, eval e X.env)] := by rfl) (h : X.K = K := by rfl) :
    PI X (.Tuple elts kk tpos) (.Call (.Name "enumerate" p) [e] [] pos) (iEnum K ta) := by subst h; exact pi_enum hg hm ha hs
theorem pgTup {es : List Expr} {k : Nat} {t : TGs} {n : Nat} {pos : Pos} (hc : X.calm = true) (h : PGs X es t) (hn : (assignEach es X.env).length = n := by rfl) (hst : (assignEach es X.env).findIdx? (·.1) = none := by rfl) (hk : X.K = K := by rfl) :
    PG X (.Tuple es k pos) (gTup K n t) := by subst hk; exact pg_tup hc h hn hst
theorem eqD (hu : X.A.units + 64 < cLine) (h : X.K = K := by rfl) : OpR X (compareOp .Eq) (rEqD K) := by subst h; exact op_eqD hu
theorem neD (hu : X.A.units + 64 < cLine) (h : X.K = K := by rfl) : OpR X (compareOp .NotEq) (rNeD K) := by subst h; exact op_neD hu
theorem revL {e : Expr} {te : TE} {k : Nat} {p1 p2 p3 pos : Pos} (he : PE X e te) (h : X.K = K := by rfl) : PE X (.Subscript e (.Slice none none (some (.UnaryOp .USub (.Constant (.int 1) k p1) p2)) p3) pos) (tRevL K te) := by subst h; exact pe_revL he
end
/-! ### sorted(xs) of data of one shape, any number -/
def rSortedB (K : PySem.W.Frag) {β : Type} (enc : β → PyData) (n : Nat) : List V → Hp → VK → Prop := fun vs H Q => ∃ (a : Addr) (xs : List V) (bs : List β) (G : Hp), vs = [V.ref a] ∧ SqL K H a xs ∧ Ex G H ∧ DpAll K G xs (bs.map enc) ∧
  ∀ ys p, H p = none → ys.length = bs.length → DpAll K G ys ((bs.mergeSort (PySem.W.dataLe false enc)).map enc) → Q (.ref p) (upd H p (.lst ys))
section
variable {X : Cx} {β : Type}
theorem dpa_zip {K : PySem.W.Frag} {H : Hp} {enc : β → PyData} : ∀ {xs : List V} {bs : List β} {us : List Value}, DpAll K H xs (bs.map enc) → Vals xs us → PySem.W.EachIs (fun u (b : V × β) => RelV b.1 u ∧ Dp K H b.1 (enc b.2)) us (xs.zip bs)
  | [], [], _, h, r => by cases r; exact .nil
  | x :: xs, b :: bs, _, h, r => by
    cases r with
    | cons r1 r2 =>
      cases h with
      | cons h1 h2 => exact .cons ⟨r1, h1⟩ (dpa_zip h2 r2)
  | [], b :: bs, _, h, _ => by cases h
  | x :: xs, [], _, h, _ => by cases h
theorem each_out {K : PySem.W.Frag} {H : Hp} {enc : β → PyData} : ∀ {us : List Value} {bs : List (V × β)}, PySem.W.EachIs (fun u (b : V × β) => RelV b.1 u ∧ Dp K H b.1 (enc b.2)) us bs → Vals (bs.map (·.1)) us ∧ DpAll K H (bs.map (·.1)) ((bs.map (·.2)).map enc)
  | _, _, .nil => ⟨.nil, .nil⟩
  | _, _, .cons h1 t => ⟨.cons h1.1 (each_out t).1, .cons h1.2 (each_out t).2⟩
theorem cr_sortedB {K : PySem.W.Frag} (enc : β → PyData) {n : Nat} (hal : ∀ b b', PySem.W.alike (enc b) (enc b') = true) (hk : (∀ b, ∃ x r, enc b = .tuple (x :: r)) ∨ ∀ b, enc b ≠ .none ∧ ∀ xs, enc b ≠ .tuple xs) (hd : ∀ b, (enc b).depth ≤ n) (hn : n ≤ 60)
    (hu : X.A.units + 64 < cLine) (hK : X.K = K := by rfl) : CallR X (.builtin "sorted") (rSortedB K enc n) := by
  subst hK
  intro pins s σ H vs us Q I r h
  obtain ⟨a, xs, bs, G, rfl, hs, eG, hx, q⟩ := h
  obtain ⟨its, rv, hl, hz⟩ := I.list hs
  obtain ⟨u, rfl, ru⟩ := vals1 r
  obtain rfl : u = Value.ref a := ru
  have e := dpa_zip hx rv
  have hlen : xs.length = bs.length := by rw [dpa_len hx, List.length_map]
  refine PySem.W.sorted_data (enc := fun b : V × β => enc b.2) hl.isList e (e.mono fun u b hb => ?_) (PySem.W.AllAlike.of fun b b' => hal _ _) ?_ (by rw [← e.length, ← rv.length]; exact hz) (fun b _ => by have := hd b.2; omega) fun out ho eo => ?_
  · obtain ⟨as, hr⟩ := Dp.reads I _ _ _ (ex_dp eG _ _ hb.2) hb.1
    exact ⟨as, hr⟩
  · rcases hk with hk | hk
    · exact PySem.W.Sortable.tuples fun b => hk b.2
    · exact PySem.W.Sortable.others fun b => hk b.2
  · obtain ⟨v1, v2⟩ := each_out eo
    obtain ⟨c, hc⟩ := sortedAll_at s.heap its out.toArray
    have em : ((xs.zip bs).mergeSort (PySem.W.dataLe false fun b : V × β => enc b.2)).map (·.2) = bs.mergeSort (PySem.W.dataLe false enc) := by
      have z := PySem.W.sort_maps (r := PySem.W.dataLe false fun b : V × β => enc b.2) (s := PySem.W.dataLe false enc) (fun b : V × β => b.2) (l := xs.zip bs) (fun _ _ _ _ => rfl)
      have z2 : (xs.zip bs).map (fun b : V × β => b.2) = bs := List.map_snd_zip (by omega)
      rw [z2] at z
      exact z
    rw [em] at v2
    have hy : (((xs.zip bs).mergeSort (PySem.W.dataLe false fun b : V × β => enc b.2)).map (·.1)).length = bs.length := by
      rw [List.length_map, List.length_mergeSort, List.length_zip]; omega
    refine ⟨.ref (s.heap.objs.size + 1), _, I.laid (a := s.heap.objs.size + 1) (o := .lst (((xs.zip bs).mergeSort (PySem.W.dataLe false fun b : V × β => enc b.2)).map (·.1))) (t' := s.toks) (fun b o z => sortedAll_old z) (Nat.le_succ _) ⟨by rw [hy, ← hlen]; exact hz, out, c, v1, hc⟩, rfl,
      q _ _ (I.hok.fresh (Nat.le_succ _)) hy v2⟩
end
/-- pairs, triples of ints; ints -/
abbrev encQ (p : Int × Int) : PyData := .tuple [.int p.1, .int p.2]
abbrev encT (p : Int × Int × Int) : PyData := .tuple [.int p.1, .int p.2.1, .int p.2.2]
section
variable {X : Cx} {K : PySem.W.Frag}
theorem sortP (hu : X.A.units + 64 < cLine) (hK : X.K = K := by rfl) : CallR X (.builtin "sorted") (rSortedB K encQ 5) :=
  cr_sortedB encQ (fun _ _ => by simp [PySem.W.alike, PySem.W.alikeAll]) (.inl fun b => ⟨_, _, rfl⟩) (fun b => by simp [PyData.depth, PyData.depthAll]) (by decide) hu hK
theorem sortT (hu : X.A.units + 64 < cLine) (hK : X.K = K := by rfl) : CallR X (.builtin "sorted") (rSortedB K encT 5) :=
  cr_sortedB encT (fun _ _ => by simp [PySem.W.alike, PySem.W.alikeAll]) (.inl fun b => ⟨_, _, rfl⟩) (fun b => by simp [PyData.depth, PyData.depthAll]) (by decide) hu hK
theorem sortI (hu : X.A.units + 64 < cLine) (hK : X.K = K := by rfl) : CallR X (.builtin "sorted") (rSortedB K PyData.int 5) :=
  cr_sortedB PyData.int (fun _ _ => by simp [PySem.W.alike]) (.inr fun b => ⟨(fun z => nomatch z), fun _ z => nomatch z⟩) (fun b => by simp [PyData.depth]) (by decide) hu hK
end
end Hx
namespace Hx
open PySem PySem.Spec PyProof.Rows L2
section
variable {P : Program} {w : World} {K : PySem.W.Frag} {mg : Str → Option Value} {base : Heap}
/-- a def that lets no exception out keeps its promise -/
theorem mkCal {x : Str} {st : Stmt} {N ps : List Str} {k : Nat} {sp : Sp} (g : mg x = some (.ref (He.ga K x))) (d : ∃ fd, FunD K x x (defArgs st) (defBody st) (defScope st) [] [] (He.ga K x) fd) (sc : FnScope N ps (defScope st))
    (hb : ∀ (kV doc pm : Value) (an : Option Addr) (cdv ct : Value) (us : List Value), us.length = ps.length → bindArgs (PySem.W.fnOf x x (defArgs st) (defBody st) (defScope st) .none kV doc pm an cdv ct) ⟨us, []⟩ = pure (ps.zip us))
    (len : ∀ vs H Q E, sp vs H Q E → vs.length = ps.length)
    (body : ∀ (cdv : Value) (A : Around) (outer : List Env) (s : Shared) (H : Hp) (vs : List V) (Q : VK) (E : XK), Room k (A.deeper (envOfC x (defScope st) s.heap.objs.size (He.ga K x) cdv)) → sp vs H Q E →
      ∃ t, PSs (cxOf CX0 P w K mg base N x (defScope st) (He.ga K x) cdv A outer s H E).nox (defBody st) t ∧ t { nx := fun _ H' => Q .non H', rt := Q } (start N vs) H) : Cal P w K mg base CX0 (k + 1) x ps sp := by
  obtain ⟨fd, F⟩ := d
  refine ⟨g, fd, F.kp, F.ok sc len fun cdv A outer s H vs Q E hr h => ?_, F.bindsN hb⟩
  obtain ⟨t, a, b⟩ := body cdv A outer s H vs Q E hr h
  exact ⟨t, a.nox, b⟩
/-- one that may -/
theorem mkCalX {x : Str} {st : Stmt} {N ps : List Str} {k : Nat} {sp : Sp} (g : mg x = some (.ref (He.ga K x))) (d : ∃ fd, FunD K x x (defArgs st) (defBody st) (defScope st) [] [] (He.ga K x) fd) (sc : FnScope N ps (defScope st))
    (hb : ∀ (kV doc pm : Value) (an : Option Addr) (cdv ct : Value) (us : List Value), us.length = ps.length → bindArgs (PySem.W.fnOf x x (defArgs st) (defBody st) (defScope st) .none kV doc pm an cdv ct) ⟨us, []⟩ = pure (ps.zip us))
    (len : ∀ vs H Q E, sp vs H Q E → vs.length = ps.length)
    (body : ∀ (cdv : Value) (A : Around) (outer : List Env) (s : Shared) (H : Hp) (vs : List V) (Q : VK) (E : XK), Room k (A.deeper (envOfC x (defScope st) s.heap.objs.size (He.ga K x) cdv)) → sp vs H Q E →
      ∃ t, PSs (cxOf (L2.CX P w) P w K mg base N x (defScope st) (He.ga K x) cdv A outer s H E) (defBody st) t ∧ t { nx := fun _ H' => Q .non H', rt := Q } (start N vs) H) : Cal P w K mg base (L2.CX P w) (k + 1) x ps sp := by
  obtain ⟨fd, F⟩ := d
  exact ⟨g, fd, F.kp, F.ok sc len body, F.bindsN hb⟩
end
end Hx
/-! methods of own classes -/
namespace Hx
open PySem PySem.Spec PyProof.Rows L2
/-- a method's promise -/
structure CalM (P : Program) (w : World) (K : PySem.W.Frag) (mg : Str → Option Value) (base : Heap) (CX : CXT) (k : Nat) (c m : Str) (ps : List Str) (sp : Sp) : Prop where
  cl : Cls K (He.ga K c)
  mt : Meth K (He.ga K c) m (He.ma K (He.ga K c) m)
  ex : ∃ fd, FnOk P w K mg base CX k (He.ma K (He.ga K c) m) fd ps sp ∧ Binds K fd ps []
/-- o.m(..) of an instance of the class c -/
def tMth (C : Addr) (m : Str) (sp : Sp) (E : XK) (ta : TE) (t : TA) : TE := fun σ H Q => ta σ H fun x H1 => ∃ a dx fs, x = .ref a ∧ H1 a = some (.ins C dx fs) ∧ fs.lookup m = none ∧ t σ H1 fun vs H2 => sp (.ref a :: vs) H2 Q E
/-- e.f of an instance of the class at C -/
def tFl (C : Addr) (ta : TE) (f : Str) : TE := fun σ H Q => ta σ H fun x H1 => ∃ a dx fs v, x = .ref a ∧ H1 a = some (.ins C dx fs) ∧ fs.lookup f = some v ∧ Q v H1
def sFl (C : Addr) (ta tv : TE) (f : Str) : L2.TS := fun D σ H => tv σ H fun y H1 => ta σ H1 fun x H2 => ∃ a dx fs, x = .ref a ∧ H2 a = some (.ins C dx fs) ∧ fs.length < 1000 ∧ D.nx σ (L2.upd H2 a (.ins C dx (putF f y fs)))
section
variable {X : Cx} {o e : Expr} {es : List Expr} {f : Str} {pos pos' apos : Pos} {ta tv : TE} {C : Addr}
theorem pe_fl (c : Cls X.K C) (n : NoAttr X.K C f) (he : PE X o ta) (hb : attributeBase o f X.env (eval o X.env) = eval o X.env := by rfl) : PE X (.Attribute o f pos) (tFl C ta f) := ⟨fun pins s σ H Q I h => by
  refine attr_of hb (thn (he.run pins s σ H _ I h) fun u s1 ⟨x, H1, I1, rx, a, dx, fs, v, ex, ea, l, q⟩ => ?_)
  subst ex
  cases rx
  exact getattr_ok I1 ea c n l fun u' s2 I2 ru => ⟨v, H1, I2, ru, q⟩⟩
theorem ps_fl {value : Expr} (c : Cls X.K C) (n : NoAttr X.K C f) (ha : PE X o ta) (hv : PE X value tv) (hs : swapsWith value (some (.Attribute o f pos')) pos.line X.env = pure false := by rfl) : PS X (.Assign [.Attribute o f pos'] value pos) (sFl C ta tv f) := ⟨fun pins s σ H D I h => by
  refine plainObj_wpAny_Assign_Attribute (thn (hv.run pins s σ H _ I h) fun u s1 ⟨y, H1, I1, ry, q⟩ => thn (ha.run pins s1 σ H1 _ I1 q) fun ov s2 ⟨x, H2, I2, rx, a, dx, fs, ex, ea, l, q2⟩ => ?_) hs
  subst ex
  cases rx
  exact setattr_ok I2 ea c n l ry fun s3 I3 => ⟨σ, _, I3, q2⟩⟩
theorem pe_mth {CX : CXT} {k : Nat} {c m : Str} {ps : List Str} {sp : Sp} {E : XK} {t : TA} {pl : Sem Bool} {P : Program} {w : World} {K : PySem.W.Frag} {mg : Str → Option Value} {base : Heap} (M : CalM P w K mg base CX k c m ps sp) (he : PE X o ta) (hr : Room k X.A) (hx : Passes CX X E) (ha : PA X (e :: es) t)
    (hst : starEach (e :: es) X.env = (false, eval e X.env) :: starEach es X.env := by rfl) (hpl : (backTo pos (starEach es X.env)).any (·.1) = false := by rfl)
    (ht : eval (.Call (.Attribute o m apos) (e :: es) [] pos) X.env = (do
      let ov ← eval o X.env
      standAt apos.atName
      let (f, first) ← holding [ov] (getMethod ov m pl)
      callWith pos f first (backTo pos (starEach (e :: es) X.env)) (backToKw pos (keywordEach [] X.env))) := by rfl)
    (h1 : X.prog = P := by rfl) (h2 : X.w = w := by rfl) (h3 : X.K = K := by rfl) (h4 : X.mg = mg := by rfl) (h5 : X.base = base := by rfl) :
    PE X (.Call (.Attribute o m apos) (e :: es) [] pos) (tMth (He.ga K c) m sp E ta t) := by
  subst h1 h2 h3 h4 h5
  obtain ⟨fd, F, b⟩ := M.ex
  have h := pe_meth (pl := pl) he M.cl M.mt F hr b .nil hx ha hst hpl ht
  refine ⟨fun pins s σ H Q I q => h.run pins s σ H Q I ?_⟩
  show ta σ H _
  have e : (fun x H1 => ∃ a dx fs, x = V.ref a ∧ H1 a = some (.ins (He.ga X.K c) dx fs) ∧ fs.lookup m = none ∧ t σ H1 fun vs H2 => sp (x :: (vs ++ [])) H2 Q E) = (fun x H1 => ∃ a dx fs, x = V.ref a ∧ H1 a = some (.ins (He.ga X.K c) dx fs) ∧ fs.lookup m = none ∧ t σ H1 fun vs H2 => sp (.ref a :: vs) H2 Q E) := by
    funext x H1
    apply propext
    constructor
    · rintro ⟨a, dx, fs, rfl, h1, h2, h3⟩
      refine ⟨a, dx, fs, rfl, h1, h2, ?_⟩
      simpa using h3
    · rintro ⟨a, dx, fs, rfl, h1, h2, h3⟩
      refine ⟨a, dx, fs, rfl, h1, h2, ?_⟩
      simpa using h3
  rw [e]
  exact q
end
section
variable {P : Program} {w : World} {K : PySem.W.Frag} {mg : Str → Option Value} {base : Heap}
theorem mkCalM {c x q : Str} {st : Stmt} {N ps : List Str} {k : Nat} {sp : Sp} (cl : Cls K (He.ga K c)) (mt : Meth K (He.ga K c) x (He.ma K (He.ga K c) x)) (d : ∃ fd, FunD K x q (defArgs st) (defBody st) (defScope st) [] [] (He.ma K (He.ga K c) x) fd) (sc : FnScope N ps (defScope st))
    (hb : ∀ (kV doc pm : Value) (an : Option Addr) (cdv ct : Value) (us : List Value), us.length = ps.length → bindArgs (PySem.W.fnOf x q (defArgs st) (defBody st) (defScope st) .none kV doc pm an cdv ct) ⟨us, []⟩ = pure (ps.zip us))
    (len : ∀ vs H Q E, sp vs H Q E → vs.length = ps.length)
    (body : ∀ (cdv : Value) (A : Around) (outer : List Env) (s : Shared) (H : Hp) (vs : List V) (Q : VK) (E : XK), Room k (A.deeper (envOfC q (defScope st) s.heap.objs.size (He.ma K (He.ga K c) x) cdv)) → sp vs H Q E →
      ∃ t, PSs (cxOf CX0 P w K mg base N q (defScope st) (He.ma K (He.ga K c) x) cdv A outer s H E).nox (defBody st) t ∧ t { nx := fun _ H' => Q .non H', rt := Q } (start N vs) H) : CalM P w K mg base CX0 (k + 1) c x ps sp := by
  obtain ⟨fd, F⟩ := d
  refine ⟨cl, mt, fd, F.ok sc len fun cdv A outer s H vs Q E hr h => ?_, F.bindsN hb⟩
  obtain ⟨t, a, b⟩ := body cdv A outer s H vs Q E hr h
  exact ⟨t, a.nox, b⟩
end
end Hx
/-! sets of texts that can be walked (after the layer's sets of whole numbers) -/
namespace Hx
open PySem PySem.Spec PyProof.Rows L2
theorem isStr_iff {k0 k : Str} {t : Tok} : Value.isStrOf k (.str k0 t) = true ↔ k0 = k := by simp [Value.isStrOf]
def keyT (e : Int × Value) : Str := match e.2 with | .str k _ => k | _ => Str.empty
def GoodT (w : World) (e : Int × Value) : Prop := ∃ k tok, e.2 = Value.str k tok ∧ e.1 = hashStr w k

/-- the set of ints at a: S its members, n their number; its table rises and can be walked -/
def SetT (w : World) (h : Heap) (a : Addr) (S : Str → Bool) (n : Nat) : Prop :=
  ∃ o xs ep t, h.get? a = some o ∧ o.ExactSet ∧ o.data = .set xs ep t ∧ (∀ e ∈ xs.toList, GoodT w e) ∧ (xs.toList.map keyT).Nodup ∧ (∀ k, S k = true ↔ k ∈ xs.toList.map keyT) ∧
    xs.size < scanBound ∧ t.fits xs.size = true ∧ xs.size = n ∧ Ris t.place.toList ∧ (w.params.followText "set-order" = true ∨ t.led = true)

section
variable {P : Program} {w : World} {h h' : Heap} {a : Addr} {S : Str → Bool} {n : Nat}

theorem SetT.at (Rt : SetT w h a S n) (k : ∀ o, h.get? a = some o → h'.get? a = some o) : SetT w h' a S n := by
  obtain ⟨o, xs, ep, t, hob, r⟩ := Rt
  exact ⟨o, xs, ep, t, k o hob, r⟩
theorem SetT.lt (Rt : SetT w h a S n) : a < h.objs.size := by
  obtain ⟨o, xs, ep, t, hob, r⟩ := Rt
  exact Heap.lt_size hob
theorem SetT.congr {S' : Str → Bool} (Rt : SetT w h a S n) (e : ∀ k, S' k = S k) : SetT w h a S' n := by
  have q : S' = S := funext e
  rw [q]; exact Rt
theorem goodT_elems {l : List (Int × Value)} (g : ∀ e ∈ l, GoodT w e) : ElemsOf (strKind P w) l := fun e he => by
  obtain ⟨k, tok, h1, h2⟩ := g e he
  exact ⟨⟨k, by rw [h1]; exact strKind_is P w k tok, h2⟩, by rw [h1] <;> rfl⟩
theorem goodT_is {e : Int × Value} (g : GoodT w e) (k : Str) : (strKind P w).is k e.2 = true ↔ keyT e = k := by
  obtain ⟨k0, tok, h1, _⟩ := g
  unfold keyT
  rw [h1]
  exact isStr_iff (t := tok)
theorem goodT_mem {l : List (Int × Value)} (g : ∀ e ∈ l, GoodT w e) (k : Str) : k ∈ l.map keyT ↔ ∃ e ∈ l, (strKind P w).is k e.2 = true := by
  rw [List.mem_map]
  constructor
  · rintro ⟨e, he, q⟩
    exact ⟨e, he, (goodT_is (g e he) k).2 q⟩
  · rintro ⟨e, he, q⟩
    exact ⟨e, he, (goodT_is (g e he) k).1 q⟩
theorem SetT.setOf (Rt : SetT w h a S n) : h.SetOf (strKind P w) a S n := by
  obtain ⟨o, xs, ep, t, hob, hx, dat, g, nod, mem, bnd, fit, num, _⟩ := Rt
  exact ⟨o, xs, ep, t, hob, hx, dat, goodT_elems g, fun k => (mem k).trans (goodT_mem g k), bnd, fit, num⟩
end

section
variable {P : Program} {w : World} {A : Around} {E : Value → Shared → Prop} {s : Shared} {a : Addr} {S : Str → Bool} {n : Nat}

/-! ### add -/
theorem storeT_at {h : Heap} {a : Addr} {o : Obj} {xs es' : Array (Int × Value)} {ep : Nat} {t t' : SetTable} (hob : h.get? a = some o) (dat : o.data = .set xs ep t) :
    (h.update a (Obj.putSet es' t')).get? a = some { o with data := .set es' (ep + 1) t' } := by
  have q := Heap.get?_update_self (Obj.putSet es' t') hob (by rw [putSet_of es' t' dat]; rfl)
  rw [putSet_of es' t' dat] at q
  exact q

theorem setT_add_tail {g : Bool → Sem Unit} (hg : ∀ (b : Bool) (s₁ : Shared) (Q' : Unit → Shared → Prop), Q' () s₁ → wpAny (model P w) A (g b) Q' E s₁)
    {o : Obj} {xs : Array (Int × Value)} {ep : Nat} {t : SetTable} (hob : s.heap.get? a = some o) (exs : o.ExactSet) (dat : o.data = .set xs ep t)
    {xs1 : Array (Int × Value)} {tb2 : SetTable} {S' : Str → Bool} (goo1 : ∀ e ∈ xs1.toList, GoodT w e) (nod1 : (xs1.toList.map keyT).Nodup) (mem1 : ∀ k, S' k = true ↔ k ∈ xs1.toList.map keyT)
    (bnd1 : xs1.size < scanBound) (fit2 : tb2.fits xs1.size = true) (ris : Ris tb2.place.toList) (led : w.params.followText "set-order" = true ∨ tb2.led = true) {wasDummy : Bool} {Rt : Option Bool → Shared → Prop}
    (then_ : ∀ h', Heap.SameBut a s.heap h' → SetT w h' a S' xs1.size → Rt (some true) { s with heap := h' }) :
    wpAny (model P w) A (do
        storeSet a xs1 tb2
        if (!wasDummy && tb2.tooFull) = true then do
            g (relayAll tb2 xs1 (SetTable.grown xs1.size)).2.2
            storeSet a (relayAll tb2 xs1 (SetTable.grown xs1.size)).1 (relayAll tb2 xs1 (SetTable.grown xs1.size)).2.1
            pure (some true)
          else pure (some true)) Rt E s := by
  refine wpAny_bind (wpAny_storeSet_of hob dat ?_ (fits_of_scanBound bnd1))
  have hob1 := storeT_at (es' := xs1) (t' := tb2) hob dat
  have but1 := Heap.SameBut.update s.heap a (Obj.putSet xs1 tb2)
  split
  · have prm := relayAll_perm tb2 xs1 (SetTable.grown xs1.size)
    have fit3 := relayAll_fits tb2 xs1 (SetTable.grown xs1.size)
    have ris3 := relayAll_ris tb2 xs1 (SetTable.grown xs1.size)
    have led3 := relayAll_led tb2 xs1 (SetTable.grown xs1.size)
    generalize relayAll tb2 xs1 (SetTable.grown xs1.size) = Z at prm fit3 ris3 led3 ⊢
    obtain ⟨xs2, tb3, gave⟩ := Z
    dsimp only at prm fit3 ris3 led3 ⊢
    have siz : xs2.size = xs1.size := by rw [← Array.length_toList, prm.length_eq, Array.length_toList]
    have bnd2 : xs2.size < scanBound := by rw [siz]; exact bnd1
    refine wpAny_bind (hg _ _ _ ?_)
    refine wpAny_bind (wpAny_storeSet_of hob1 rfl ?_ (fits_of_scanBound bnd2))
    have hob2 := storeT_at (es' := xs2) (t' := tb3) hob1 rfl
    refine wpAny_pure (then_ _ (but1.trans (Heap.SameBut.update _ a _)) ?_)
    exact ⟨_, xs2, _, tb3, hob2, exs, rfl, fun e he => goo1 e (prm.mem_iff.mp he), (prm.map keyT).nodup_iff.mpr nod1, fun k => (mem1 k).trans (prm.map keyT).mem_iff.symm, bnd2, fit3, siz, ris3,
      led.imp id fun z => by rw [led3]; exact z⟩
  · exact wpAny_pure (then_ _ but1 ⟨_, xs1, _, tb2, hob1, exs, rfl, goo1, nod1, mem1, bnd1, fit2, rfl, ris, led⟩)

theorem setT_add_hashed {k : Str} {tok : Tok} {Q : Bool → Shared → Prop} (Rt : SetT w s.heap a S n) (room : n + 1 < scanBound)
    (then_ : ∀ h', Heap.SameBut a s.heap h' → SetT w h' a (fun j => S j || decide (j = k)) (if S k = true then n else n + 1) → Q (!S k) { s with heap := h' }) :
    wpAny (model P w) A (setAddHashed a (.str k tok) ((strKind P w).hash k)) Q E s := by
  obtain ⟨o, xs, ep, t, hob, exs, dat, g, nod, mem, bnd, fit, num, ris, led⟩ := Rt
  have isk : (strKind P w).is k (.str k tok) = true := strKind_is P w k tok
  have scan : (Value.str k tok).scannable = true := rfl
  have els : ElemsOf (strKind P w) xs.toList := goodT_elems g
  unfold setAddHashed setAddHashedIn
  refine wpAny_holding (wpAny_bind (wpAny_setState_of hob dat fit ?_))
  dsimp only
  rw [byScan_of scan bnd els]
  simp only [↓reduceIte]
  unfold setAddByScan
  refine wpAny_bind ?_
  refine wpAny_bind (wpAny_rule ?_)
  refine wpAny_bind (wpAny_setScan_of isk hob dat fit els ?_)
  cases fnd : List.findIdx? (fun e => (strKind P w).is k e.2) xs.toList with
  | some j =>
    dsimp only
    obtain ⟨hj, pj, _⟩ := List.findIdx?_eq_some_iff_getElem.mp fnd
    have inS : S k = true := (mem k).2 ((goodT_mem (P := P) (w := w) g k).2 ⟨xs.toList[j], List.getElem_mem hj, pj⟩)
    refine wpAny_pure (wpAny_pure ?_)
    have q := then_ s.heap (Heap.SameBut.refl a s.heap) ⟨o, xs, ep, t, hob, exs, dat, g, nod, fun i => by
      rw [Bool.or_eq_true, decide_eq_true_eq, ← mem i]
      exact ⟨fun z => z.elim id (fun e => e ▸ inS), .inl⟩, bnd, fit, by rw [if_pos inS]; exact num, ris, led⟩
    rw [inS] at q
    exact q
  | none =>
    dsimp only
    have notk : k ∉ xs.toList.map keyT := fun z => by
      obtain ⟨e, he, q⟩ := (goodT_mem (P := P) (w := w) g k).1 z
      have c := List.findIdx?_eq_none_iff.mp fnd e he
      rw [q] at c
      cases c
    have inS : S k = false := by
      cases q : S k with
      | false => rfl
      | true => exact absurd ((mem k).1 q) notk
    have gaveW : ∀ (b : Bool) {s₁ : Shared} {Q' : Unit → Shared → Prop}, Q' () s₁ → wpAny (model P w) A (match b with | true => rule "set.scan.the-table-gave-way" | false => pure ()) Q' E s₁ :=
      fun b s₁ Q' q => by cases b <;> first | exact wpAny_pure q | exact wpAny_rule q
    have prm := layNew_perm t xs ((strKind P w).hash k) (.str k tok)
    have fit1 := layNew_fits t xs ((strKind P w).hash k) (.str k tok)
    have ris1 := layNew_ris t xs ((strKind P w).hash k) (.str k tok) ris
    have led1 := layNew_led t xs ((strKind P w).hash k) (.str k tok)
    generalize layNew t xs ((strKind P w).hash k) (.str k tok) = Z at prm fit1 ris1 led1 ⊢
    obtain ⟨xs1, t1, wasDummy, gave⟩ := Z
    dsimp only at prm fit1 ris1 led1 ⊢
    rw [Array.toList_push] at prm
    have prc : xs1.toList.Perm (((strKind P w).hash k, Value.str k tok) :: xs.toList) := prm.trans (List.perm_append_singleton _ _)
    have prk : (xs1.toList.map keyT).Perm (k :: xs.toList.map keyT) := prc.map keyT
    have goo1 : ∀ e ∈ xs1.toList, GoodT w e := fun e he => by
      rcases List.mem_cons.mp (prc.mem_iff.mp he) with z | z
      · rw [z]; exact ⟨k, tok, rfl, rfl⟩
      · exact g e z
    have nod1 : (xs1.toList.map keyT).Nodup := prk.nodup_iff.mpr (List.nodup_cons.mpr ⟨notk, nod⟩)
    have mem1 : ∀ i, (S i || decide (i = k)) = true ↔ i ∈ xs1.toList.map keyT := fun i => by
      rw [Bool.or_eq_true, decide_eq_true_eq, mem i, prk.mem_iff, List.mem_cons]
      exact Or.comm
    have siz : xs1.size = n + 1 := by rw [← Array.length_toList, prc.length_eq, List.length_cons, Array.length_toList, num]
    have bnd1 : xs1.size < scanBound := by rw [siz]; exact room
    have ledd : w.params.followText "set-order" = true ∨ t1.led = true := led.imp id fun z => by rw [led1]; exact z
    have done : ∀ h', Heap.SameBut a s.heap h' → SetT w h' a (fun j => S j || decide (j = k)) xs1.size → Q true { s with heap := h' } := fun h' but r => by
      have q := then_ h' but
      rw [inS] at q
      rw [siz] at r
      exact q r
    refine wpAny_bind (gaveW _ ?_)
    split
    · refine wpAny_bind ?_
      rw [hashByValue_scannable 8 scan]
      refine wpAny_pure ?_
      refine setT_add_tail ?_ hob exs dat goo1 nod1 mem1 bnd1 ?_ ?_ ?_ ?_
      · intro b s₁ Q' q; cases b <;> first | exact wpAny_pure q | exact wpAny_rule q
      · first | (split <;> first | exact fit1 | exact SetTable.fits_plain_off fit1) | exact fit1
      · first | (split <;> exact ris1) | exact ris1
      · first | (split <;> exact ledd) | exact ledd
      · intro h' but r; dsimp only; exact wpAny_pure (done h' but r)
    · refine wpAny_bind (wpAny_pure ?_)
      simp only [↓reduceIte]
      refine setT_add_tail ?_ hob exs dat goo1 nod1 mem1 bnd1 fit1 ris1 ledd ?_
      · intro b s₁ Q' q; cases b <;> first | exact wpAny_pure q | exact wpAny_rule q
      · intro h' but r; dsimp only; exact wpAny_pure (done h' but r)

/-- found.add(k) -/
theorem setT_add {k : Str} {tok : Tok} {Q : Value → Shared → Prop} (Rt : SetT w s.heap a S n) (room : n + 1 < scanBound)
    (then_ : ∀ h', Heap.SameBut a s.heap h' → SetT w h' a (fun j => S j || decide (j = k)) (if S k = true then n else n + 1) → Q .none { s with heap := h', toks := s.toks + 1 }) :
    wpAny (model P w) A (call (.builtin "set.add") [.ref a, .str k tok]) Q E s := by
  have hSt : s.heap.SetOf (strKind P w) a S n := Rt.setOf
  refine wpAny_call_entry F.slot_set_add hSt.typeIs F.entry_set_add ?_ (F.args_set_add_2 _ _)
  unfold Builtin.«set.add» Builtin.Frozenset.oneOther
  simp only [List.isEmpty_nil, bind_assoc]
  unfold Builtin.Frozenset.addrOf setAdd
  refine wpAny_bind (wpAny_pure ?_)
  try dsimp only
  refine wpAny_bind (wpAny_pure ?_)
  try dsimp only
  refine wpAny_bind ?_
  refine wpAny_holding ?_
  refine wpAny_bind ((strKind P w).pyHash (strKind_is P w k tok) ?_)
  refine setT_add_hashed (s := { s with toks := s.toks + 1 }) Rt room fun h' but r => ?_
  show wpAny _ _ (ret Value.none) _ _ _
  exact wpAny_pure ⟨_, rfl, then_ h' but r⟩


end
end Hx
/-! dicts with text keys: sorted, dict(d) -/
namespace Hx
open PySem PySem.Spec PyProof.Rows L2
abbrev leS : Str → Str → Bool := PySem.W.dataLe false PyData.str
theorem strs_of_each {h : Heap} : ∀ {vs : List Value} {zs : List Str}, PySem.W.EachIs (fun v z => ∃ as, Reads h v (PyData.str z) as) vs zs → Vals (zs.map V.str) vs
  | _, _, .nil => .nil
  | _, _, .cons h1 t => by
    obtain ⟨as, r⟩ := h1
    cases r
    exact .cons ⟨_, rfl⟩ (strs_of_each t)
theorem each_strs {h : Heap} {a : Addr} : ∀ {vs : List Value} {zs : List Str}, Vals (zs.map V.str) vs → PySem.W.EachIs (fun v z => ∃ as, Reads h v (PyData.str z) as ∧ a ∉ as) vs zs
  | [], [], _ => .nil
  | v :: vs, z :: zs, .cons r t => by
    obtain ⟨tk, rfl⟩ := (show ∃ t, v = Value.str z t from r)
    exact .cons ⟨[], Reads.str _ _, by simp⟩ (each_strs t)
  | [], _ :: _, h => nomatch h
  | _ :: _, [], h => nomatch h
section
variable {X : Cx}
/-- sorted(x), x's items gathered: texts of which P is known -/
theorem sorted_by {pq : List (Addr × Obj)} {s : Shared} {σ : L2.St} {H : Hp} {Q : VK} (Iv : Inv X pq σ H s) (hu : X.A.units + 64 < cLine) {u : Value} (P : List Str → Prop)
    (hcol : ∀ R : List Value → Shared → Prop, (∀ (s1 : Shared) (vs : List Value) (zs : List Str), P zs → (∀ b o, s.heap.get? b = some o → s1.heap.get? b = some o) → s.heap.objs.size ≤ s1.heap.objs.size → s1.gens = s.gens → s1.os = s.os → Vals (zs.map V.str) vs → zs.length ≤ sizeLine → R vs s1) →
      wpAny (model X.prog X.w) X.A.in1 (collect u) R X.xe s)
    (q : ∀ zs p, P zs → H p = none → Q (.ref p) (upd H p (.lst ((zs.mergeSort leS).map V.str)))) : wpAny (model X.prog X.w) X.A (call (.builtin "sorted") [u]) (EP X pq σ Q) X.xe s := by
  refine Calls.call_function_entry kind_sorted plain_sorted entry_sorted (args_sorted1 _) ?_
  unfold Builtin.«sorted»
  refine wpAny_bind (m := checkCount "sorted" 1 1 _) (wpAny_pure ?_)
  refine wpAny_bind (hcol _ fun s1 vs zs hP k1 hz g1 o1 ev hl => ?_)
  have hvl : vs.length = zs.length := by rw [← ev.length, List.length_map]
  have hz4 : vs.length ≤ sizeLine := by rw [hvl]; exact hl
  refine wpAny_bind (wpAny_newList ?_ hz4)
  have hoL : (s1.heap.push (seqObj "list" vs.toArray 0)).get? s1.heap.objs.size = some (seqObj "list" vs.toArray 0) := Heap.get?_push_size _ rfl
  have en := each_strs (h := s1.heap.push (seqObj "list" vs.toArray 0)) (a := s1.heap.objs.size) ev
  refine wpAny_bind (wpAny_holding (PySem.W.list_sort_data (R := fun v b => ∃ as, Reads (s1.heap.push (seqObj "list" vs.toArray 0)) v (PyData.str b) as) (enc := PyData.str) (s := { s1 with heap := s1.heap.push (seqObj "list" vs.toArray 0) }) hoL (en.mono fun v b ⟨as, r, _⟩ => ⟨as, r⟩) en
    (PySem.W.AllAlike.of fun _ _ => by simp [PySem.W.alike]) (PySem.W.Sortable.others fun b => ⟨(fun z => nomatch z), fun _ z => nomatch z⟩) hl
    (fun b _ => by have : (PyData.str b).depth = 0 := by simp [PyData.depth]
                   rw [this]; show X.A.units + 1 + 1 + 0 < cLine; omega) fun out hlo eo => ?_))
  have vo := strs_of_each eo
  obtain ⟨c, hc2⟩ := sortedHeap_at (vs := vs) (out := out.toArray) hoL
  have kp : ∀ b u, s.heap.get? b = some u → (sortedHeap (s1.heap.push (seqObj "list" vs.toArray 0)) s1.heap.objs.size vs out.toArray).get? b = some u := fun b u e => by
    have q := k1 b u e
    have hlt := Heap.lt_size q
    rw [sortedHeap_old (Nat.ne_of_lt hlt) (by rw [size_push']; exact Nat.lt_succ_of_lt hlt)]
    exact Heap.get?_push_of_some _ q
  have hp : H s1.heap.objs.size = none := Iv.hok.fresh hz
  have J : Inv X pq σ (upd H s1.heap.objs.size (.lst ((zs.mergeSort leS).map V.str))) { s with heap := sortedHeap (s1.heap.push (seqObj "list" vs.toArray 0)) s1.heap.objs.size vs out.toArray, gens := s1.gens, drawn := s1.drawn, toks := s1.toks } :=
    Iv.call (ch := []) (Un.laid kp hz hp) (Iv.hok.laid kp hz ⟨by rw [List.length_map, List.length_mergeSort]; exact hl, out, c, vo, hc2⟩) (by rw [g1]; exact Iv.bare) (fun _ z => nomatch z)
  refine wpAny_pure ⟨_, rfl, ?_⟩
  obtain ⟨h1, g1', d1, t1, os1⟩ := s1
  obtain rfl : os1 = s.os := o1
  exact ⟨.ref _, _, J, rfl, q zs _ hP hp⟩
/-- a source's items gathered, the heap grown -/
theorem gather {A : Around} {s : Shared} {E : Value → Shared → Prop} {prog : Program} {w : World} {T : String} {r d : Addr} {n : Nat} {Pv : Nat → Value → Prop} {OK : Heap → Prop} {R : List Value → Shared → Prop} (S : PySem.W.KdlSrc prog w T r d n Pv OK)
    (calm : A.handled = none) (ok : OK s.heap) (size : n ≤ sizeLine) (after : ∀ (g : Heap) (tk : Nat) (got : Array Value), (∀ b o, s.heap.get? b = some o → g.get? b = some o) → s.heap.objs.size ≤ g.objs.size → ItemsOf Pv got n → R got.toList { s with heap := g, toks := tk }) :
    wpAny (model prog w) A (collect (.ref r)) R E s := by
  obtain ⟨ne1, ne2⟩ := S.there _ ok
  generalize hp : s.heap.objs.size = p
  rw [hp] at ne1 ne2
  unfold collect
  refine wpAny_bind (wpAny_runValue (codeAny_builtin PyProof.Rows.entry_proto_collect' ?_))
  rw [Around.under_plainId PySem.F.plain_proto_collect _]
  show wpAny _ A.in1 (newList [] >>= fun l => again (.builtin "list.__iadd__" ⟨[l, .ref r], []⟩)) _ _ s
  refine wpAny_bind (wpAny_newObj_type (wpAny_pure ⟨plainId_quiet PySem.F.plain_list_iadd _, codeAny_builtin PyProof.Rows.entry_list_iadd' ?_⟩))
  rw [Around.under_plainId PySem.F.plain_list_iadd _, hp]
  generalize hg : s.heap.push { cls := .type "list", data := .seq ([] : List Value).toArray } = g0
  have at0 : g0.get? p = some { cls := .type "list", data := .seq #[] } := by rw [← hg, ← hp]; exact Heap.get?_push_size _ rfl
  have old0 : ∀ b o, s.heap.get? b = some o → g0.get? b = some o := fun b o e => by rw [← hg]; exact Heap.get?_push_of_some _ e
  show wpAny _ A.in1 (Builtin.List.listExtendWith (.ref p) (.ref r) (.ref p)) _ _ _
  let Z : Result → Shared → Prop := fun q s' => ∃ (g : Heap) (tk : Nat) (got : Array Value) (c : Nat), q = .ok (.ret (.ref p)) ∧ s' = { s with heap := g, toks := tk } ∧ (∀ b o, s.heap.get? b = some o → g.get? b = some o) ∧
    g.get? p = some { cls := .type "list", dict := none, data := .seq got c, slots := #[] } ∧ ItemsOf Pv got n
  have ext := PySem.W.kdl_extend (A := A) (s := { s with heap := g0 }) (R := Z) S calm (S.keep _ _ ok fun b _ o e => old0 b o e) p (Nat.ne_of_gt ne1) (Nat.ne_of_gt ne2) (.ref p) 0 at0
    (fun g tk got c k at1 it => ⟨g, tk, got, c, rfl, rfl, fun b o e => k b o (fun z => by rw [z, ← hp] at e; exact Nat.lt_irrefl _ (Heap.lt_size e)) (old0 b o e), at1, it⟩) size
  have fin : ∀ (s' : Shared) (q : Result), Z q s' → ∃ (g : Heap) (tk : Nat) (got : Array Value) (c : Nat), q = .ok (.ret (.ref p)) ∧ s' = { s with heap := g, toks := tk } ∧ g.get? p = some { cls := .type "list", dict := none, data := .seq got c, slots := #[] } ∧ R got.toList { s with heap := g, toks := tk } :=
    fun s' q ⟨g, tk, got, c, e1, e2, k, at1, it⟩ => ⟨g, tk, got, c, e1, e2, at1, after g tk got k (by rw [hp]; exact Nat.le_of_lt (Heap.lt_size at1)) it⟩
  refine wpAny_mono ext (fun f s' x => ?_) fun e s' x => ?_
  · cases f with
    | done v =>
      obtain ⟨g, tk, got, c, e1, rfl, at1, hR⟩ := fin s' _ x
      cases e1
      exact wpAny_bind (wpAny_load at1 (wpAny_pure hR))
    | again c1 =>
      refine ⟨x.1, codeAny_mono x.2 fun q s2 y => ?_⟩
      obtain ⟨g, tk, got, c, rfl, rfl, at1, hR⟩ := fin s2 q y
      exact wpAny_bind (wpAny_load at1 (wpAny_pure hR))
  · obtain ⟨g, tk, got, c, e1, _⟩ := fin s' _ x
    cases e1
/-- sorted(d), d a dict with text keys -/
def rSortDk : List V → Hp → VK → Prop := fun vs H Q => ∃ (a : Addr) (kvs : List (Key × V)) (ks : List Str), vs = [V.ref a] ∧ H a = some (.dK kvs) ∧ kvs.map (·.1) = ks.map Sum.inr ∧ ∀ p, H p = none → Q (.ref p) (upd H p (.lst ((ks.mergeSort leS).map V.str)))
theorem sortDk (hc : X.calm = true) (hu : X.A.units + 64 < cLine) : CallR X (.builtin "sorted") rSortDk := by
  intro pq s σ H vs us Q Iv r h
  obtain ⟨a, kvs, ks, rfl, ha, hk, q⟩ := h
  have hh := Iv.ok.hd hc
  rw [Vals.ref1 r]
  obtain ⟨z, lo, vs', rk, hd⟩ := (show ObjOk X.prog X.w H s.heap a (.dK kvs) from Iv.hok a _ ha)
  obtain ⟨ep, hat⟩ := hd.dictAt
  have hl : kvs.length = vs'.length := Paired.length rk
  have hkl : ks.length = kvs.length := by have := congrArg List.length hk; simpa using this.symm
  refine sorted_by Iv hu (fun zs => zs = ks) (fun R hR => ?_) (fun zs p e hp => by rw [e]; exact q p hp)
  refine gather (PySem.W.kdl_dict (knd := mixKind X.prog X.w) (kvs := vs') (ep := ep) lo) hh hat (by rw [← hl]; exact z) fun h' tk acc hkeep hsz hacc => ?_
  refine hR _ acc.toList ks rfl hkeep hsz rfl rfl ?_ (by rw [hkl]; exact z)
  · have el : acc.toList.length = acc.size := by simp
    refine vals_of_at (by rw [List.length_map, el, hacc.1, ← hl, hkl]) fun j x w h1 h2 => ?_
    obtain ⟨k, y, hky, hi⟩ := hacc.2 j w (by rw [← Array.getElem?_toList]; exact h2)
    have e1 : (kvs.map (·.1))[j]? = some k := by
      rw [KV.keys rk, List.getElem?_map, hky] <;> rfl
    rw [hk, List.getElem?_map] at e1
    rw [List.getElem?_map] at h1
    cases hj : ks[j]? with
    | none => rw [hj] at e1; cases e1
    | some z =>
      rw [hj] at e1 h1
      cases e1
      cases h1
      exact keyIs_rel (k := Sum.inr z) hi
end
end Hx
/-! sets of texts made by a comprehension; sorted of them -/
namespace Hx
open PySem PySem.Spec PyProof.Rows L2
def SetS (w : World) (a : Addr) (S : Str → Bool) (n : Nat) : HO := .ext fun h => SetT w h a S n
theorem setS_new {w : World} {P : Program} {H : Hp} {h : Heap} {a : Addr} {S : Str → Bool} {n : Nat} (R : SetT w h a S n) : ObjOk P w H h a (SetS w a S n) := by
  have ⟨o, _, _, _, ho, _⟩ := R
  exact ⟨R, ⟨o, ho⟩, fun _ _ p k => SetT.at p k⟩
theorem setS_get {pins : List (Addr × Obj)} {σ : L2.St} {H : Hp} {s : Shared} {a : Addr} {S : Str → Bool} {n : Nat} (I : Inv X pins σ H s) (ha : H a = some (SetS X.w a S n)) : SetT X.w s.heap a S n := (I.hok a _ ha).1
theorem setT_fresh {h : Heap} (w : World) : SetT w (h.push { cls := .type "set", dict := none, data := .set #[] 0 (.fresh 0 0 (!w.params.followText "set-order")) }) h.objs.size (fun _ => false) 0 := by
  refine ⟨_, #[], 0, _, Heap.get?_push_size _ rfl, ⟨rfl, rfl, rfl⟩, rfl, (fun e he => by simp at he), (by simp), (fun k => by simp), (by decide), (by rfl), rfl, List.Pairwise.nil, ?_⟩
  show _ ∨ (!w.params.followText "set-order") = true
  cases w.params.followText "set-order"
  · exact .inr rfl
  · exact .inl rfl
section
variable {X : Cx}
theorem addS_ok {pq : List (Addr × Obj)} {σ : L2.St} {H : Hp} {s : Shared} {E : Value → Shared → Prop} {D : Addr} {S : Str → Bool} {n : Nat} {y : Str} {t : Tok} {Q : Value → Shared → Prop} (Iv : Inv X pq σ H s) (hD : H D = some (SetS X.w D S n)) (room : n + 1 < scanBound)
    (h : ∀ s', Inv X pq σ (upd H D (SetS X.w D (fun j => S j || decide (j = y)) (if S y = true then n else n + 1))) s' → Q .none s') : wpAny (model X.prog X.w) X.A (call (.builtin "set.add") [.ref D, .str y t]) Q E s := by
  refine setT_add (setS_get Iv hD) room fun h' sb new => ?_
  obtain ⟨o, _, _, _, ho, _⟩ := id new
  exact h _ (Iv.write (e := D) (t' := s.toks + 1) (by rw [hD]; trivial) (.inl rfl) (fun b u hb hu => (sb.2 b hb).trans hu) ⟨o, ho⟩ (setS_new new))
def tScS (w : World) (wi : TI) (g : TG) (tt : TT) (te : TE) (vs : List Nat) : TE := fun σ H Q => wi σ H fun J B1 => ∀ D, B1 D = none → ∃ W : Nat → Nat → Hp → Prop, (∃ m, W 0 m (upd B1 D (SetS w D (fun _ => false) 0))) ∧ ∀ i m H, W i m H →
  (J.stop i H ∧ Q (.ref D) H) ∨ (J.go i H ∧ ∃ Nx : Hp → Prop, (∀ H', Nx H' → ∃ m', m' < m ∧ W (i + 1) m' H') ∧ ∀ x H', J.yld i H x H' → g x (wipe σ vs) H' fun σ2 B2 => wipe σ2 vs = wipe σ vs ∧ tt σ2 B2 fun b B3 =>
    if b = true then te σ2 B3 fun y B4 => ∃ (c : Str) (S : Str → Bool) (n : Nat), y = .str c ∧ B4 D = some (SetS w D S n) ∧ n + 1 < scanBound ∧ Nx (upd B4 D (SetS w D (fun j => S j || decide (j = c)) (if S c = true then n else n + 1))) else Nx B3)
theorem scS_core {pq : List (Addr × Obj)} {s : Shared} {σ : L2.St} {H : Hp} {Q : VK} {elt tg iter : Expr} {ifs : List Expr} {scope : Scope} {own : List (PySem.Str × Nat)} {pos pos' : Pos} {wi : TI} {g : TG} {tt : TT} {te : TE} {use : Option (Value → Sem Unit)} {Qf : Value → Shared → Prop}
    (hc : X.calm = true) (hN : X.N.Nodup) (Iv : Inv X pq σ H s) (hi : PI X tg iter wi) (ok : BlkOk X.N X.env.scope scope own)
    (hg : ∀ (s : Shared) (H : Hp) (C : Addr) (cl : List (PySem.Str × Addr)) (fq : List Addr), PG (X.blk s H scope (compEnvC scope cl C X.env) fq) tg g) (ht : ∀ (s : Shared) (H : Hp) (C : Addr) (cl : List (PySem.Str × Addr)) (fq : List Addr), PTs (X.blk s H scope (compEnvC scope cl C X.env) fq) ifs tt)
    (he : ∀ (s : Shared) (H : Hp) (C : Addr) (cl : List (PySem.Str × Addr)) (fq : List Addr), PE (X.blk s H scope (compEnvC scope cl C X.env) fq) elt te) (hs : ∀ x, foldedSetIterable iter X.env x = pure x)
    (h : tScS X.w wi g tt te (own.map (·.2)) σ H Q)
    (hRR : ∀ D C s' m H', Inv X pq σ H' s' → Q (.ref D) H' → s'.heap.Ns C m → FpOk X pq H' C → compPost (model X.prog X.w) X.A X.xe use Qf (.ref D) C (.ok .next) s') :
    wpAny (model X.prog X.w) X.A (comprehension (.SetComp elt [⟨tg, iter, ifs, 0⟩] scope pos) scope X.env pos' (newSet (.type "set")) false (eval iter X.env) use) Qf X.xe s := by
  have hfree : ∀ y ∈ scope.names, y.2 = .free → ∃ c, X.env.cells.lookup y.1 = some c := fun y hy e => by
    rcases ok.free y hy e with k | k
    · exact Iv.ok.has _ (.inl k)
    · exact Iv.ok.has _ (.inr k)
  refine wpAny_comprehension_free (use := use) rfl hs (closure_ok hfree) ok.kind (fun y hy e => by rw [ok.uniq y hy, e])
    (thn (hi.run pq s σ H _ Iv h) fun xv z1s hx => thn hx fun itv z2s h2 => ?_)
  obtain ⟨it, fq, tn, J, B2, e, Iv2, T, st2, f2, q⟩ := h2
  subst e
  refine PpSet.newSet_ok (newEnv_comp ?_)
  generalize hD : z2s.heap.objs.size = D
  have hDn : B2 D = none := Iv2.hok.fresh (Nat.le_of_eq hD)
  obtain ⟨W, ⟨m0, w0⟩, turn⟩ := q D hDn
  generalize hs3 : ({ z2s with heap := z2s.heap.push { cls := .type "set", dict := none, data := .set #[] 0 (.fresh 0 0 (!X.w.params.followText "set-order")) } } : Shared) = z3s
  have Iv3 : Inv X pq σ (upd B2 D (SetS X.w D (fun _ => false) 0)) z3s := by
    rw [← hs3]
    refine Iv2.laid (t' := z2s.toks) (fun b o e => Heap.get?_push_of_some _ e) (Nat.le_of_eq hD) ?_
    rw [← hD]
    exact setS_new (setT_fresh X.w)
  have h3 : z3s.heap = z2s.heap.push { cls := .type "set", dict := none, data := .set #[] 0 (.fresh 0 0 (!X.w.params.followText "set-order")) } := by rw [← hs3]
  have sz : ∀ b ∈ fq, b < z2s.heap.objs.size := fun b hb => by
    obtain ⟨o, e, _⟩ := T.obj _ _ st2 b hb
    exact Heap.lt_size e
  have f3 : ∀ b ∈ fq, FpOk X pq (upd B2 D (SetS X.w D (fun _ => false) 0)) b ∧ b < z3s.heap.objs.size := fun b hb => by
    have hlt := sz b hb
    refine ⟨⟨?_, (f2 b hb).2⟩, by rw [h3, Heap.size_push]; exact Nat.lt_succ_of_lt hlt⟩
    rw [upd_ne (by rw [← hD]; exact Nat.ne_of_lt hlt)]
    exact (f2 b hb).1
  have st3 : tn 0 z3s.heap := T.keep _ _ _ st2 fun b _ o e => by rw [h3]; exact Heap.get?_push_of_some _ e
  have Iv4 := block_start Iv3 ok hN f3
  have pg := hg z3s (upd B2 D (SetS X.w D (fun _ => false) 0)) z3s.heap.objs.size (cellsFrom (z3s.heap.objs.size + 1) scope.names (cloFrom X.env.cells scope.names [])) fq
  have pt := ht z3s (upd B2 D (SetS X.w D (fun _ => false) 0)) z3s.heap.objs.size (cellsFrom (z3s.heap.objs.size + 1) scope.names (cloFrom X.env.cells scope.names [])) fq
  have pe := he z3s (upd B2 D (SetS X.w D (fun _ => false) 0)) z3s.heap.objs.size (cellsFrom (z3s.heap.objs.size + 1) scope.names (cloFrom X.env.cells scope.names [])) fq
  show codeAny _ _ (.compStart (.SetComp elt [⟨tg, iter, ifs, 0⟩] scope pos) 0 (.ref it) (.ref D) (compEnvC scope (cellsFrom (z3s.heap.objs.size + 1) scope.names (cloFrom X.env.cells scope.names [])) z3s.heap.objs.size X.env)) (compPost (model X.prog X.w) X.A X.xe use Qf (.ref D) z3s.heap.objs.size) { z3s with heap := pushCells (z3s.heap.push { cls := .type "dict", data := .dict #[] }) scope.names }
  have nfp : ∀ b ∈ fq, (upd B2 D (SetS X.w D (fun _ => false) 0)) b = none := fun b hb => (f3 b hb).1.1
  generalize hce : compEnvC scope (cellsFrom (z3s.heap.objs.size + 1) scope.names (cloFrom X.env.cells scope.names [])) z3s.heap.objs.size X.env = ce at Iv4 pg pt pe ⊢
  have cL : ce.locals = z3s.heap.objs.size := by subst hce; rfl
  generalize hH3 : upd B2 D (SetS X.w D (fun _ => false) 0) = B3 at Iv3 Iv4 pg pt pe w0 nfp f3
  generalize hs4 : ({ z3s with heap := pushCells (z3s.heap.push { cls := .type "dict", data := .dict #[] }) scope.names } : Shared) = z4s at Iv4 ⊢
  have st4 : tn 0 z4s.heap := T.keep _ _ _ st3 fun b _ o e => by rw [← hs4]; exact pushCells_keeps _ _ _ _ (Heap.get?_push_of_some _ e)
  have stat : ∀ {σ' : L2.St} {H' : Hp} {s' : Shared}, Inv (X.blk z3s B3 scope ce fq) [] σ' H' s' → (∀ b ∈ fq, H' b = none) → ∀ b ∈ fq, FpOk (X.blk z3s B3 scope ce fq) [] H' b := fun {σ' H' s'} Iv' hn b hb =>
    ⟨hn b hb, (Iv'.ok.exf b hb).1, Iv'.ok.exfs b hb, .inl hb, fun x c e => (Iv'.ok.exf b hb).2 x c e, fun p hp => absurd (show p ∈ ([] : List (Addr × Obj)) ++ [] from hp) (by simp)⟩
  have loop : codeAny (model X.prog X.w) X.A (.compLoop (.SetComp elt [⟨tg, iter, ifs, 0⟩] scope pos) 0 (.ref it) (.ref D) ce) (compPost (model X.prog X.w) X.A X.xe use Qf (.ref D) z3s.heap.objs.size) z4s := by
    refine PpSet.compLoopS_any (fun n s' => ∃ i H', Inv (X.blk z3s B3 scope ce fq) [] (wipe σ (own.map (·.2))) H' s' ∧ tn i s'.heap ∧ (∀ b ∈ fq, H' b = none) ∧ W i n H') ?_ m0 ⟨0, B3, Iv4, st4, nfp, w0⟩
    rintro n z5s ⟨i, B5, Iv5, st5, n5, w5⟩
    rcases turn i n B5 w5 with ⟨stop, qq⟩ | ⟨go, Nx, hNx, step⟩
    · have td := T.done (X.blk z3s B3 scope ce fq) rfl rfl rfl hc i [] z5s _ B5 (fun _ _ => False) Iv5 (stat Iv5 n5) st5 stop
      refine thnF td fun r z6s ⟨hr, Iv6⟩ => ?_
      subst hr
      have Iv7 : Inv X pq σ B5 z6s := Iv3.call' (ch := fq) Iv6.os Iv6.base Iv6.hok Iv6.bare fun b hb => ⟨(f3 b hb).1.2.2.2.1, (f3 b hb).1.2.1, (f3 b hb).1.2.2.2.2.1, (f3 b hb).1.2.2.2.2.2⟩
      have nC : B5 z3s.heap.objs.size = none := by
        have z : B5 ce.locals = none := Iv6.free
        rw [cL] at z
        exact z
      obtain ⟨m, hn, _⟩ := Iv6.loc
      have hn : z6s.heap.Ns ce.locals m := hn
      rw [cL] at hn
      exact hRR D z3s.heap.objs.size z6s m B5 Iv7 qq hn (Iv3.fpOk (Nat.le_refl _) nC)
    · have ti := T.item (X.blk z3s B3 scope ce fq) rfl rfl rfl hc i [] z5s _ B5 (fun _ _ => False) Iv5 (stat Iv5 n5) st5 go
      refine thnF ti fun r z6s ⟨u, hr, h6⟩ => ?_
      subst hr
      refine thnF h6 fun _ z7s ⟨x, B7, Iv7, r7, y7, st7, n7⟩ => ?_
      have Iv7' := Iv7.pinned (stat Iv7 n7) (T.obj _ _ st7)
      refine thnF (pg.run _ z7s _ B7 x u _ Iv7' r7 (step x B7 y7)) fun _ z8s ⟨σ8, B8, Iv8, hw8, q8⟩ => ?_
      refine thnF (pt.run _ z8s σ8 B8 _ Iv8 q8) fun b z9s ⟨B9, Iv9, q9⟩ => ?_
      have fin : ∀ {s' : Shared} {H' : Hp}, Inv (X.blk z3s B3 scope ce fq) ([] ++ pinsAt fq z7s.heap) σ8 H' s' → Nx H' → ∃ m, m < n ∧ ∃ i H', Inv (X.blk z3s B3 scope ce fq) [] (wipe σ (own.map (·.2))) H' s' ∧ tn i s'.heap ∧ (∀ b ∈ fq, H' b = none) ∧ W i m H' := fun {s' H'} Iv' nx => by
        obtain ⟨m', hm, w'⟩ := hNx H' nx
        have pin' : ∀ b ∈ fq, ∀ o, z7s.heap.get? b = some o → s'.heap.get? b = some o ∧ H' b = none := fun b hb o e =>
          let z := Iv'.pin (b, o) (List.mem_append_right _ (List.mem_append_right _ (mem_pinsAt hb e)))
          ⟨z.1, z.2.1⟩
        have hl : (wipe σ (own.map (·.2))).length = σ8.length := by rw [← hw8, wipe_length]
        refine ⟨m', hm, i + 1, H', (Iv'.unpinned (pins := [])).weak hl (fun j v e => ?_), T.keep _ _ _ st7 fun b hb o e => (pin' b hb o e).1, fun b hb => ?_, w'⟩
        · rw [← hw8] at e
          exact (wipe_some e).1
        · obtain ⟨o, e, _⟩ := T.obj _ _ st7 b hb
          exact (pin' b hb o e).2
      cases b with
      | false =>
        simp only [Bool.false_eq_true, if_false] at q9 ⊢
        exact fin Iv9 q9
      | true =>
        simp only [if_true] at q9 ⊢
        refine thnF (pe.run _ z9s σ8 B9 _ Iv9 q9) fun z z10s ⟨yv, B10, I10, r10, cb, S0, n0, ey, hD10, hz10, nx⟩ => ?_
        subst ey
        obtain ⟨tk10, rfl⟩ := (show ∃ t, z = Value.str cb t from r10)
        exact addS_ok (X := X.blk z3s B3 scope ce fq) I10 hD10 hz10 fun z11s I11 => fin I11 nx
  exact PpSet.codeAny_compStart_set loop (T.self X.A 0 _ _ _ st4 loop)
theorem pe_scS {elt tg iter : Expr} {ifs : List Expr} {scope : Scope} {own : List (PySem.Str × Nat)} {pos : Pos} {wi : TI} {g : TG} {tt : TT} {te : TE} (hc : X.calm = true) (hN : X.N.Nodup) (hi : PI X tg iter wi) (ok : BlkOk X.N X.env.scope scope own)
    (hg : ∀ (s : Shared) (H : Hp) (C : Addr) (cl : List (PySem.Str × Addr)) (fq : List Addr), PG (X.blk s H scope (compEnvC scope cl C X.env) fq) tg g) (ht : ∀ (s : Shared) (H : Hp) (C : Addr) (cl : List (PySem.Str × Addr)) (fq : List Addr), PTs (X.blk s H scope (compEnvC scope cl C X.env) fq) ifs tt)
    (he : ∀ (s : Shared) (H : Hp) (C : Addr) (cl : List (PySem.Str × Addr)) (fq : List Addr), PE (X.blk s H scope (compEnvC scope cl C X.env) fq) elt te) (hs : ∀ x, foldedSetIterable iter X.env x = pure x := by intro _; rfl) :
    PE X (.SetComp elt [⟨tg, iter, ifs, 0⟩] scope pos) (tScS X.w wi g tt te (own.map (·.2))) := by
  refine ⟨fun pq s σ H Q Iv h => ?_⟩
  rw [PpSet.eval_SetComp]
  refine scS_core hc hN Iv hi ok hg ht he hs h fun D C s' m H' Iv' q hn f => ⟨m, hn, fun h'' sb => ?_⟩
  obtain ⟨f0, f1, f2, f3, f4, f5⟩ := f
  exact ⟨.ref D, H', Iv'.turned (t' := s'.toks) (fun b o hb e => (sb.2 b hb).trans e) f0 f1 f3 f4 f5, rfl, q⟩
end
theorem tYes_ifS {σ : L2.St} {H : Hp} {A B : Hp → Prop} (h : A H) : tYes σ H (fun b H3 => if b = true then A H3 else B H3) := by
  show (if true = true then A H else B H)
  rw [if_pos rfl]
  exact h
section
variable {M : Addr → Prop} {G H : Hp} {σ : L2.St} {g : TG} {tt : TT} {te : TE} {vs : List Nat}
/-- what such a comprehension leaves: the set of what was made (v i, where f i) -/
theorem scWS {w : World} {J : It} {n : Nat} {Wg : Hp → Prop} {Y : Nat → Hp → V → Hp → Prop} (W : Walk J n Wg Y) (e : Ex G H) (hWg : ∀ H', Ex G H' → Wg H') (hn : n ≤ 4000) (v : Nat → Str) (σt : Nat → L2.St)
    (hg : ∀ i x G' H' H'', i < n → Stp M G H G' H' → Y i H' x H'' → ∀ Q : L2.St → Hp → Prop, (∀ G2 H2, Stp M G' H' G2 H2 → Q (σt i) H2) → g x (wipe σ vs) H'' Q) (hw : ∀ i, i < n → wipe (σt i) vs = wipe σ vs)
    (he : ∀ i G' H', i < n → Stp M G H G' H' → ∀ Q : VK, (∀ G2 H2, Stp M G' H' G2 H2 → Q (.str (v i)) H2) → te (σt i) H' Q) (hM : ∀ D, H D = none → ¬ M D) {D : Addr} (hD : H D = none) {Qd : Hp → Prop}
    (hd : ∀ S m G' H', Stp M G H G' H' → G' D = none → H' D = some (SetS w D S m) → (∀ k, S k = true ↔ k ∈ (List.range n).map v) → m = ((List.range n).map v).eraseDups.length → Qd H') :
    ∃ W : Nat → Nat → Hp → Prop, (∃ m, W 0 m (upd H D (SetS w D (fun _ => false) 0))) ∧ ∀ i m H, W i m H →
      (J.stop i H ∧ Qd H) ∨ (J.go i H ∧ ∃ Nx : Hp → Prop, (∀ H', Nx H' → ∃ m', m' < m ∧ W (i + 1) m' H') ∧ ∀ x H', J.yld i H x H' → g x (wipe σ vs) H' fun σ2 H2 => wipe σ2 vs = wipe σ vs ∧ tYes σ2 H2 fun b H3 =>
        if b = true then te σ2 H3 fun y H4 => ∃ (c : Str) (S : Str → Bool) (n : Nat), y = .str c ∧ H4 D = some (SetS w D S n) ∧ n + 1 < scanBound ∧ Nx (upd H4 D (SetS w D (fun j => S j || decide (j = c)) (if S c = true then n else n + 1))) else Nx H3) := by
  refine ⟨fun i m H' => m = n - i ∧ i ≤ n ∧ ∃ S k G', Stp M G H G' H' ∧ G' D = none ∧ H' D = some (SetS w D S k) ∧ (∀ j, S j = true ↔ j ∈ (List.range i).map v) ∧ k = ((List.range i).map v).eraseDups.length ∧ k ≤ i,
    ⟨n, by simp, Nat.zero_le _, fun _ => false, 0, G, Stp.lay e hD, Evl.fresh_back e hD, upd_same, fun j => by simp, rfl, Nat.zero_le _⟩, ?_⟩
  rintro i m H' ⟨rfl, hi, S, k, G', a, gD, hS, hm, hk, hki⟩
  by_cases hlt : i < n
  · refine .inr ⟨W.goes i H' hlt (hWg H' (a.gg.trans a.gh)), fun H2 => i + 1 ≤ n ∧ ∃ S k G', Stp M G H G' H2 ∧ G' D = none ∧ H2 D = some (SetS w D S k) ∧ (∀ j, S j = true ↔ j ∈ (List.range (i + 1)).map v) ∧ k = ((List.range (i + 1)).map v).eraseDups.length ∧ k ≤ i + 1, fun H2 q => ⟨n - (i + 1), by omega, rfl, q⟩, fun x H2 y => ?_⟩
    refine hg i x G' H' H2 hlt a (W.yields i H' x H2 hlt (hWg _ (a.gg.trans a.gh)) y) _ fun G3 H3 b => ⟨hw i hlt, ?_⟩
    refine tYes_ifS ?_
    refine he i G3 H3 hlt (a.trans b) _ fun G4 H4 c => ?_
    have hS3 : H3 D = some (SetS w D S k) := b.hh D _ (hM D hD) hS
    have hS4 : H4 D = some (SetS w D S k) := c.hh D _ (hM D hD) hS3
    have g4 : G4 D = none := c.fr D (some_ne hS3) (b.fr D (some_ne hS) gD)
    have er : (List.range (i + 1)).map v = (List.range i).map v ++ [v i] := by rw [List.range_succ, List.map_append]; rfl
    refine ⟨v i, S, k, rfl, hS4, Nat.lt_of_lt_of_le (show k + 1 < 4095 by omega) (by decide), hlt, _, _, G4, ((a.trans b).trans c).mut (.inl hD) g4, g4, upd_same, fun j => ?_, ?_, ?_⟩
    · show (S j || decide (j = v i)) = true ↔ _
      rw [Bool.or_eq_true, decide_eq_true_iff, hm j, er, List.mem_append, List.mem_singleton]
    · rw [er]
      by_cases hv : S (v i) = true
      · rw [if_pos hv, hk, List.eraseDups_append]
        have : List.removeAll [v i] ((List.range i).map v) = [] := by
          unfold List.removeAll
          rw [List.filter_cons, if_neg (by simp [List.elem_iff]; exact List.mem_map.mp ((hm _).mp hv) |>.imp fun _ h => ⟨List.mem_range.mp h.1, h.2⟩)]
          rfl
        rw [this]; simp
      · rw [if_neg hv, hk, List.eraseDups_append]
        have : List.removeAll [v i] ((List.range i).map v) = [v i] := by
          unfold List.removeAll
          rw [List.filter_cons, if_pos]
          · rfl
          · have hn : ¬ v i ∈ (List.range i).map v := fun z => hv ((hm _).mpr z)
            simpa [List.elem_iff] using hn
        rw [this, List.length_append]
        rfl
    · split <;> omega
  · have en : i = n := by omega
    subst en
    exact .inl ⟨W.stops H' (hWg _ (a.gg.trans a.gh)), hd S k G' H' a gD hS hm hk⟩
end
section
variable {X : Cx}
/-- sorted of a set of texts -/
def rSortSetS (w : World) : List V → Hp → VK → Prop := fun vs H Q => ∃ (a : Addr) (S : Str → Bool) (n : Nat), vs = [V.ref a] ∧ H a = some (SetS w a S n) ∧
  ∀ (zs : List Str) (p : Addr), zs.Nodup → (∀ k : Str, k ∈ zs ↔ S k = true) → H p = none → Q (.ref p) (upd H p (.lst ((zs.mergeSort leS).map V.str)))
theorem sortSetS (hc : X.calm = true) (hu : X.A.units + 64 < cLine) : CallR X (.builtin "sorted") (rSortSetS X.w) := by
  intro pq s σ H vs us Q Iv r h
  obtain ⟨a, S, n, rfl, ha, q⟩ := h
  have hh := Iv.ok.hd hc
  rw [Vals.ref1 r]
  obtain ⟨o, es, ep, t, ho, hex, hd, g, nd, hm, hb, hf, hn, hr, hl⟩ := setS_get Iv ha
  refine sorted_by Iv hu (fun zs => zs.Nodup ∧ ∀ k : Str, k ∈ zs ↔ S k = true) (fun R hR => ?_) (fun zs p e hp => q zs p e.1 e.2 hp)
  refine collect_set (A := X.A.in1) hh ⟨o, ho, hex.1, hd⟩ hf hb hr hl fun s1 vs k1 hz g1 o1 pm => ?_
  have hvl : vs.length = es.size := by rw [pm.length_eq, List.length_map, Array.length_toList]
  have hI : ∀ v ∈ vs, ∃ z t, v = Value.str z t := fun v hv => by
    obtain ⟨e, he, q⟩ := List.mem_map.mp (pm.mem_iff.mp hv)
    obtain ⟨k, tk, h1, _⟩ := g e he
    exact ⟨k, tk, q ▸ h1⟩
  have pk : (vs.map fun v => keyT (0, v)).Perm (es.toList.map keyT) := by
    have z := pm.map (fun v => keyT (0, v))
    rwa [List.map_map] at z
  refine hR s1 vs (vs.map fun v => keyT (0, v)) ⟨pk.nodup_iff.mpr nd, fun k => by rw [pk.mem_iff, ← hm k]⟩ k1 hz g1 o1 ?_ (by rw [List.length_map, hvl]; unfold scanBound at hb; rw [sizeLine_eq]; omega)
  clear hR pk pm hvl
  induction vs with
  | nil => exact .nil
  | cons v vs ih =>
    obtain ⟨z, t, rfl⟩ := hI v (List.mem_cons_self ..)
    exact .cons ⟨t, rfl⟩ (ih fun u hu => hI u (List.mem_cons_of_mem _ hu))
/-- dict(d) -/
theorem call_dictK : CallR X (.type "dict") (fun xs H Q => ∃ (a : Addr) (kvs : List (Key × V)), xs = [.ref a] ∧ H a = some (.dK kvs) ∧ ∀ p, H p = none → Q (.ref p) (upd H p (.dK kvs))) := by
  intro pq s σ H vs us Q Iv r h
  obtain ⟨a, kvs, rfl, ha, q⟩ := h
  rw [Vals.ref1 r]
  exact d_copyOf Iv (.inl ha) fun p s' hp I' => ⟨.ref p, _, I', rfl, q p hp⟩
end
end Hx
/-! data made by the program itself: every list, tuple, dict stands in H by itself; dicts from texts to whole numbers or truth values -/
namespace Hx
open PySem PySem.Spec PyProof.Rows L2
/-- a flat value of such a dict -/
inductive FV : V → PyData → Prop
  | int (i : Int) : FV (.int i) (.int i)
  | bl (b : Bool) : FV (.bl b) (.bool b)
abbrev DKV : List (Key × V) → List (PyData × PyData) → Prop := Paired fun p q => ∃ z, p.1 = Sum.inr z ∧ q.1 = .str z ∧ FV p.2 q.2
mutual
inductive Dt (H : Hp) : V → PyData → Prop
  | non : Dt H .non .none
  | bl (b : Bool) : Dt H (.bl b) (.bool b)
  | int (i : Int) : Dt H (.int i) (.int i)
  | str (x : Str) : Dt H (.str x) (.str x)
  | lst {a : Addr} {xs : List V} {ds : List PyData} : H a = some (.lst xs) → DtAll H xs ds → Dt H (.ref a) (.list ds)
  | tup {a : Addr} {xs : List V} {ds : List PyData} : H a = some (.tup xs) → DtAll H xs ds → Dt H (.ref a) (.tuple ds)
  | dct {a : Addr} {kvs : List (Key × V)} {es : List (PyData × PyData)} : H a = some (.dK kvs) → DKV kvs es → Dt H (.ref a) (.dict es)
inductive DtAll (H : Hp) : List V → List PyData → Prop
  | nil : DtAll H [] []
  | cons {v : V} {vs : List V} {d : PyData} {ds : List PyData} : Dt H v d → DtAll H vs ds → DtAll H (v :: vs) (d :: ds)
end
section
variable {H H' : Hp}
theorem ex_dt (e : Ex H H') : ∀ (d : PyData) (v : V), Dt H v d → Dt H' v d := by
  intro d
  refine PyData.rec (motive_1 := fun d => ∀ v, Dt H v d → Dt H' v d) (motive_2 := fun ds => ∀ vs, DtAll H vs ds → DtAll H' vs ds) (motive_3 := fun _ => True) (motive_4 := fun _ => True) ?_ ?_ ?_ ?_ ?_ ?_ ?_ ?_ ?_ ?_ ?_ ?_ d
  · intro v h; cases h; exact .non
  · intro b v h; cases h; exact .bl b
  · intro i v h; cases h; exact .int i
  · intro x v h; cases h; exact .str x
  · intro xs ih v h
    cases h with
    | lst hs ha => exact .lst (e _ _ hs) (ih _ ha)
  · intro xs ih v h
    cases h with
    | tup hs ha => exact .tup (e _ _ hs) (ih _ ha)
  · intro kvs _ v h
    cases h with
    | dct hs ha => exact .dct (e _ _ hs) ha
  · intro vs h; cases h; exact .nil
  · intro d ds ih ihs vs h
    cases h with
    | cons h1 h2 => exact .cons (ih _ h1) (ihs _ h2)
  · trivial
  · intros; trivial
  · intros; trivial
theorem ex_dta (e : Ex H H') : ∀ {ds : List PyData} {vs : List V}, DtAll H vs ds → DtAll H' vs ds
  | [], _, h => by cases h; exact .nil
  | d :: ds, _, h => by
    cases h with
    | cons h1 h2 => exact .cons (ex_dt e d _ h1) (ex_dta e h2)
theorem dta_len : ∀ {ds : List PyData} {vs : List V}, DtAll H vs ds → vs.length = ds.length
  | [], _, h => by cases h; rfl
  | d :: ds, _, h => by
    cases h with
    | cons h1 h2 => exact congrArg Nat.succ (dta_len h2)
theorem dta_get : ∀ {ds : List PyData} {vs : List V}, DtAll H vs ds → ∀ {i : Nat} {v : V}, vs[i]? = some v → ∃ d, ds[i]? = some d ∧ Dt H v d
  | [], _, h, i, v, e => by cases h; simp at e
  | d :: ds, _, h, i, v, e => by
    cases h with
    | cons h1 h2 =>
      cases i with
      | zero =>
        have e' := Option.some.inj (show some _ = some v from by simpa using e)
        subst e'
        exact ⟨d, by simp, h1⟩
      | succ i =>
        obtain ⟨d', a, b⟩ := dta_get h2 (i := i) (v := v) (by simpa using e)
        exact ⟨d', by simpa using a, b⟩
theorem dta_get' {ds : List PyData} {vs : List V} (h : DtAll H vs ds) {i : Nat} {d : PyData} (e : ds[i]? = some d) : ∃ v, vs[i]? = some v ∧ Dt H v d := by
  have hl := dta_len h
  have hi : i < ds.length := (List.getElem?_eq_some_iff.mp e).1
  obtain ⟨d', a, b⟩ := dta_get h (i := i) (v := vs[i]'(by omega)) (by simp)
  rw [e] at a; cases a
  exact ⟨_, by simp, b⟩
theorem dta_app : ∀ {ds es : List PyData} {vs us : List V}, DtAll H vs ds → DtAll H us es → DtAll H (vs ++ us) (ds ++ es)
  | [], _, _, _, h, k => by cases h; exact k
  | d :: ds, _, _, _, h, k => by
    cases h with
    | cons h1 h2 => exact .cons h1 (dta_app h2 k)
theorem dta_of {ds : List PyData} {vs : List V} (hl : vs.length = ds.length) (h : ∀ (i : Nat) (v : V) (d : PyData), vs[i]? = some v → ds[i]? = some d → Dt H v d) : DtAll H vs ds := by
  induction vs generalizing ds with
  | nil => cases ds with
    | nil => exact .nil
    | cons _ _ => cases hl
  | cons v vs ih => cases ds with
    | nil => cases hl
    | cons d ds => exact .cons (h 0 v d rfl rfl) (ih (Nat.succ.inj hl) fun i v d a b => h (i + 1) v d (by simpa using a) (by simpa using b))
theorem dt_list {v : V} {ds : List PyData} (h : Dt H v (.list ds)) : ∃ a xs, v = .ref a ∧ H a = some (.lst xs) ∧ DtAll H xs ds := by
  cases h with
  | lst hs ha => exact ⟨_, _, rfl, hs, ha⟩
theorem dt_tup {v : V} {ds : List PyData} (h : Dt H v (.tuple ds)) : ∃ a xs, v = .ref a ∧ H a = some (.tup xs) ∧ DtAll H xs ds := by
  cases h with
  | tup hs ha => exact ⟨_, _, rfl, hs, ha⟩
theorem dt_dict {v : V} {es : List (PyData × PyData)} (h : Dt H v (.dict es)) : ∃ a kvs, v = .ref a ∧ H a = some (.dK kvs) ∧ DKV kvs es := by
  cases h with
  | dct hs ha => exact ⟨_, _, rfl, hs, ha⟩
theorem ty_dt {K : PySem.W.Frag} {v : V} {d : PyData} (h : Dt H v d) : TyX K H v (.type (tyN d)) := by
  cases h with
  | non => exact .base .non
  | bl b => exact .base (.bl b)
  | int i => exact .base (.int i)
  | str x => exact .base (.str x)
  | lst hs _ => exact .base (.lst hs)
  | tup hs _ => exact .base (.tup hs)
  | dct hs _ => exact .base (.dK hs)
theorem isi_dt {K : PySem.W.Frag} {v : V} {d : PyData} {T : String} {Q : VK} (h : Dt H v d) (k : kitB (tyN d) T = some (isT T d)) (q : Q (.bl (isT T d)) H) : rIsi K [v, .ty T] H Q :=
  ⟨v, .ty T, .type (tyN d), .type T, _, rfl, .ty T, ty_dt h, kit_ty k, q⟩
end
/-! kinds -/
theorem isT_tup {d : PyData} (h : isT "tuple" d = true) : ∃ ds, d = .tuple ds := by cases d <;> first | exact ⟨_, rfl⟩ | (exfalso; revert h; simp [isT])
theorem isT_list {d : PyData} (h : isT "list" d = true) : ∃ ds, d = .list ds := by cases d <;> first | exact ⟨_, rfl⟩ | (exfalso; revert h; simp [isT])
theorem isT_str {d : PyData} (h : isT "str" d = true) : ∃ z, d = .str z := by cases d <;> first | exact ⟨_, rfl⟩ | (exfalso; revert h; simp [isT])
theorem isT_dict {d : PyData} (h : isT "dict" d = true) : ∃ es, d = .dict es := by cases d <;> first | exact ⟨_, rfl⟩ | (exfalso; revert h; simp [isT])
/-! bounds -/
abbrev Bd := Str × Str × Int
abbrev encB (e : Bd) : PyData := .tuple [.str e.1, .str e.2.1, .int e.2.2]
/-- the tuple at r is the bound e -/
abbrev Tb (H : Hp) (v : V) (e : Bd) : Prop := ∃ r, v = .ref r ∧ H r = some (.tup [.str e.1, .str e.2.1, .int e.2.2])
theorem tb_ex {H H' : Hp} (e : Ex H H') {v : V} {b : Bd} (h : Tb H v b) : Tb H' v b := by
  obtain ⟨r, rfl, h⟩ := h
  exact ⟨r, rfl, e _ _ h⟩
theorem tb_dt {H : Hp} {v : V} {e : Bd} (h : Tb H v e) : Dt H v (encB e) := by
  obtain ⟨r, rfl, h⟩ := h
  exact .tup h (.cons (.str _) (.cons (.str _) (.cons (.int _) .nil)))
theorem dt_tb {H : Hp} {v : V} {e : Bd} (h : Dt H v (encB e)) : Tb H v e := by
  obtain ⟨a, xs, rfl, hs, ha⟩ := dt_tup h
  cases ha with
  | cons h1 ha => cases ha with
    | cons h2 ha => cases ha with
      | cons h3 ha =>
        cases ha; cases h1; cases h2; cases h3
        exact ⟨a, rfl, hs⟩
/-- the list of bounds at a -/
def Bds (H : Hp) (a : Addr) (es : List Bd) : Prop := ∃ xs, H a = some (.lst xs) ∧ Paired (Tb H) xs es
theorem Bds.ex {H H' : Hp} (e : Ex H H') {a : Addr} {es : List Bd} (h : Bds H a es) : Bds H' a es := by
  obtain ⟨xs, h1, h2⟩ := h
  exact ⟨xs, e _ _ h1, Paired.mapP h2 fun _ _ t => tb_ex e t⟩
theorem paired_at {α β : Type} {F : α → β → Prop} : ∀ {as : List α} {bs : List β}, Paired F as bs → ∀ {i : Nat} {a : α}, as[i]? = some a → ∃ b, bs[i]? = some b ∧ F a b
  | _, _, .nil, i, a, e => by simp at e
  | _ :: _, _ :: _, .cons r t, 0, a, e => by
    have e := Option.some.inj (show some _ = some a from by simpa using e)
    subst e
    exact ⟨_, by simp, r⟩
  | _ :: _, _ :: _, .cons r t, i + 1, a, e => by
    obtain ⟨b, h1, h2⟩ := paired_at t (i := i) (a := a) (by simpa using e)
    exact ⟨b, by simpa using h1, h2⟩
theorem paired_dta {α : Type} {H : Hp} {enc : α → PyData} {F : V → α → Prop} (hF : ∀ v b, F v b → Dt H v (enc b)) : ∀ {vs : List V} {bs : List α}, Paired F vs bs → DtAll H vs (bs.map enc)
  | _, _, .nil => .nil
  | _, _, .cons r t => .cons (hF _ _ r) (paired_dta hF t)
theorem dta_paired {α : Type} {H : Hp} {enc : α → PyData} {F : V → α → Prop} (hF : ∀ v b, Dt H v (enc b) → F v b) : ∀ {bs : List α} {vs : List V}, DtAll H vs (bs.map enc) → Paired F vs bs
  | [], _, h => by cases h; exact .nil
  | b :: bs, _, h => by
    cases h with
    | cons h1 h2 => exact .cons (hF _ _ h1) (dta_paired hF h2)
theorem at_nat {xs : List V} {i : Nat} {x : V} (h : xs[i]? = some x) : atI xs ((i : Nat) : Int) = some x := at_of rfl h
theorem getD_of {α : Type} {l : List α} {d x : α} {i : Nat} (h : l[i]? = some x) : l.getD i d = x := by rw [List.getD_eq_getElem?_getD, h]; rfl
theorem sel_flat {v : Nat → V} {f : Nat → Bool} {n : Nat} {ys : List V} {G : Hp} (h : Sel (fun i y _ => y = v i) f n ys G) : ys = ((List.range n).filter f).map v := by
  have gen : ∀ {as : List Nat} {bs : List V}, Paired (fun i y => y = v i) as bs → bs = as.map v := by
    intro as bs p
    induction p with
    | nil => rfl
    | cons r t ih => rw [List.map_cons, ← ih, r]
  exact gen h
theorem sel_flat1 {v : Nat → V} {n : Nat} {ys : List V} {G : Hp} (h : Sel (fun i y _ => y = v i) (fun _ => true) n ys G) : ys = (List.range n).map v := by
  rw [sel_flat h, List.filter_eq_self.mpr fun _ _ => rfl]
theorem range_map {α β : Type} (l : List α) (d : α) (f : α → β) : (List.range l.length).map (fun i => f (l.getD i d)) = l.map f := by
  apply List.ext_getElem
  · simp
  · intro i h1 h2
    have hi : i < l.length := by simpa using h1
    simp [List.getD_eq_getElem?_getD, hi]
theorem sz (m : Nat) (h : m ≤ 1000000) : m < sizeLine := Nat.lt_of_le_of_lt h (by decide)
end Hx
namespace Hx
open PySem PySem.Spec PyProof.Rows L2
theorem turn_range0 {M : Addr → Prop} {G H G' H' H'' : Hp} {j i : Nat} {x : V} {σ0 : L2.St} {Q : L2.St → Hp → Prop} (a : Stp M G H G' H') (y : YFn (fun i => .int (0 + (i : Int))) i H' x H'') (q : ∀ G2 H2, Stp M G' H' G2 H2 → Q (σ0.set j (some (.int (i : Nat)))) H2) : gName j x σ0 H'' Q := by
  obtain ⟨rfl, rfl⟩ := y
  show Q (σ0.set j (some (.int (0 + (i : Int))))) _
  rw [Int.zero_add]
  exact q G' H'' (Stp.refl a.gh)
/-- a comprehension of truth values, nothing is left behind by a turn's value -/
theorem lcB {K : PySem.W.Frag} {H : Hp} {σ : L2.St} {g : TG} {te : TE} {vs : List Nat} {J : It} {n : Nat} {Wg : Hp → Prop} {Y : Nat → Hp → V → Hp → Prop} (W : Walk J n Wg Y) (hWg : ∀ H', Ex H H' → Wg H') (hn : n ≤ 1000000) (b : Nat → Bool) (σt : Nat → L2.St)
    (hg : ∀ i x G' H' H'', i < n → Stp NoM H H G' H' → Y i H' x H'' → ∀ Q : L2.St → Hp → Prop, (∀ G2 H2, Stp NoM G' H' G2 H2 → Q (σt i) H2) → g x (wipe σ vs) H'' Q) (hw : ∀ i, i < n → wipe (σt i) vs = wipe σ vs)
    (he : ∀ i H', i < n → Ex H H' → ∀ Q : VK, (∀ H2, Ex H' H2 → Q (.bl (b i)) H2) → te (σt i) H' Q) {D : Addr} (hD : H D = none) {Qd : Hp → Prop}
    (hd : ∀ H', Ex H H' → SqL K H' D (((List.range n).map b).map V.bl) → Qd H') :
    ∃ W : Nat → Nat → Hp → Prop, (∃ m, W 0 m (upd H D (.lst []))) ∧ ∀ i m H, W i m H →
      (J.stop i H ∧ Qd H) ∨ (J.go i H ∧ ∃ Nx : Hp → Prop, (∀ H', Nx H' → ∃ m', m' < m ∧ W (i + 1) m' H') ∧ ∀ x H', J.yld i H x H' → g x (wipe σ vs) H' fun σ2 H2 => wipe σ2 vs = wipe σ vs ∧ tYes σ2 H2 fun b H3 =>
        if b = true then te σ2 H3 fun y H4 => ∃ acc, H4 D = some (.lst acc) ∧ acc.length < sizeLine ∧ Nx (upd H4 D (.lst (acc ++ [y]))) else Nx H3) := by
  refine lcW (M := NoM) W (Evl.Ex.refl H) hWg hn (fun i y _ => y = .bl (b i)) (fun _ _ _ _ _ h => h) (fun _ => true) σt hg hw (fun i G' H' hi a' Q q => yes_t a'.gh q)
    (fun i G' H' hi _ a' Q q => he i H' hi (a'.gg.trans a'.gh) Q fun H2 e => q _ G' H2 (Stp.of a'.gh e) rfl) (fun _ _ h => h) hD (fun ys G' H' a' gD hl' hsel => ?_)
  refine hd H' (a'.gg.trans a'.gh) ?_
  have gen : ∀ {as : List Nat} {bs : List V}, Paired (fun i y => y = V.bl (b i)) as bs → bs = (as.map b).map V.bl := by
    intro as bs p
    induction p with
    | nil => rfl
    | cons r t ih => rw [List.map_cons, List.map_cons, ← ih, r]
  have z := gen hsel
  rw [List.filter_eq_self.mpr fun _ _ => rfl] at z
  rw [← z]
  exact SqL.of hl'

/-- len of a dict -/
theorem call_lenK {X : Cx} : CallR X (.builtin "len") (fun xs H Q => ∃ (a : Addr) (kvs : List (Key × V)), xs = [.ref a] ∧ H a = some (.dK kvs) ∧ Q (.int kvs.length) H) := by
  intro pq s σ H vs us Q Iv r h
  obtain ⟨a, kvs, rfl, ha, q⟩ := h
  rw [Vals.ref1 r]
  exact d_len Iv (.inl ha) fun t s' I' => ⟨.int kvs.length, H, I', ⟨t, rfl⟩, q⟩
section
variable {K : PySem.W.Frag} {M : Addr → Prop} {G H : Hp} {σ : L2.St} {g : TG} {tk tv : TE} {vs : List Nat}
/-- {k: v for .. in ..}: nothing but the dict is laid -/
theorem dcW {J : It} {n : Nat} {Wg : Hp → Prop} {Y : Nat → Hp → V → Hp → Prop} (W : Walk J n Wg Y) (e : Ex G H) (hWg : ∀ H', Ex G H' → Wg H') (hn : n ≤ 1000000) (f : Nat → Key × V) (σt : Nat → L2.St)
    (hg : ∀ i x G' H' H'', i < n → Stp M G H G' H' → Y i H' x H'' → ∀ Q : L2.St → Hp → Prop, (∀ G2 H2, Stp M G' H' G2 H2 → Q (σt i) H2) → g x (wipe σ vs) H'' Q) (hw : ∀ i, i < n → wipe (σt i) vs = wipe σ vs)
    (hk : ∀ i G' H', i < n → Stp M G H G' H' → ∀ Q : VK, (∀ G2 H2, Stp M G' H' G2 H2 → Q (kV (f i).1) H2) → tk (σt i) H' Q)
    (hv : ∀ i G' H', i < n → Stp M G H G' H' → ∀ Q : VK, (∀ G2 H2, Stp M G' H' G2 H2 → Q (f i).2 H2) → tv (σt i) H' Q) (hM : ∀ D, H D = none → ¬ M D) {D : Addr} (hD : H D = none) {Qd : Hp → Prop}
    (hd : ∀ G' H', Stp M G H G' H' → G' D = none → H' D = some (.dK (((List.range n).map f).foldl (fun acc p => putK acc p.1 p.2) [])) → Qd H') :
    ∃ W : Nat → Nat → Hp → Prop, (∃ m, W 0 m (upd H D (.dK []))) ∧ ∀ i m H, W i m H →
      (J.stop i H ∧ Qd H) ∨ (J.go i H ∧ ∃ Nx : Hp → Prop, (∀ H', Nx H' → ∃ m', m' < m ∧ W (i + 1) m' H') ∧ ∀ x H', J.yld i H x H' → g x (wipe σ vs) H' fun σ2 H2 => wipe σ2 vs = wipe σ vs ∧ tYes σ2 H2 fun b H3 =>
        if b = true then tk σ2 H3 fun y H4 => tv σ2 H4 fun z H5 => ∃ kvs k, y = kV k ∧ H5 D = some (.dK kvs) ∧ kvs.length < sizeLine ∧ Nx (upd H5 D (.dK (putK kvs k z))) else Nx H3) := by
  refine ⟨fun i m H' => m = n - i ∧ i ≤ n ∧ ∃ G', Stp M G H G' H' ∧ G' D = none ∧ H' D = some (.dK (((List.range i).map f).foldl (fun acc p => putK acc p.1 p.2) [])) ∧ (((List.range i).map f).foldl (fun acc p => putK acc p.1 p.2) []).length ≤ i,
    ⟨n, by simp, Nat.zero_le _, G, Stp.lay e hD, Evl.fresh_back e hD, upd_same, Nat.zero_le _⟩, ?_⟩
  rintro i m H' ⟨rfl, hi, G', a, gD, hS, hl⟩
  by_cases hlt : i < n
  · refine .inr ⟨W.goes i H' hlt (hWg H' (a.gg.trans a.gh)), fun H2 => i + 1 ≤ n ∧ ∃ G', Stp M G H G' H2 ∧ G' D = none ∧ H2 D = some (.dK (((List.range (i + 1)).map f).foldl (fun acc p => putK acc p.1 p.2) [])) ∧ (((List.range (i + 1)).map f).foldl (fun acc p => putK acc p.1 p.2) []).length ≤ i + 1, fun H2 q => ⟨n - (i + 1), by omega, rfl, q⟩, fun x H2 y => ?_⟩
    refine hg i x G' H' H2 hlt a (W.yields i H' x H2 hlt (hWg _ (a.gg.trans a.gh)) y) _ fun G3 H3 b => ⟨hw i hlt, ?_⟩
    refine tYes_ifS ?_
    refine hk i G3 H3 hlt (a.trans b) _ fun G4 H4 c => ?_
    refine hv i G4 H4 hlt ((a.trans b).trans c) _ fun G5 H5 d => ?_
    have hS3 := b.hh D _ (hM D hD) hS
    have hS4 := c.hh D _ (hM D hD) hS3
    have hS5 := d.hh D _ (hM D hD) hS4
    have g5 : G5 D = none := d.fr D (some_ne hS4) (c.fr D (some_ne hS3) (b.fr D (some_ne hS) gD))
    have er : ((List.range (i + 1)).map f).foldl (fun acc p => putK acc p.1 p.2) [] = putK (((List.range i).map f).foldl (fun acc p => putK acc p.1 p.2) []) (f i).1 (f i).2 := by
      rw [List.range_succ, List.map_append, List.foldl_append]; rfl
    refine ⟨_, (f i).1, rfl, hS5, Nat.lt_of_le_of_lt hl (sz _ (by omega)), hlt, G5, (((a.trans b).trans c).trans d).mut (.inl hD) g5, g5, ?_, ?_⟩
    · rw [er]; exact upd_same
    · rw [er]; exact Nat.le_trans (length_putK _ _ _) (by omega)
  · have en : i = n := by omega
    subst en
    exact .inl ⟨W.stops H' (hWg _ (a.gg.trans a.gh)), hd G' H' a gD hS⟩
end
end Hx
/-! dict comprehensions whose keys are tuples (after the layer's own for flat keys) -/
namespace Hx
open PySem PySem.Spec PyProof.Rows L2
theorem d_dictSetT {X : Cx} {pq : List (Addr × Obj)} {σ : L2.St} {H : Hp} {s : Shared} {E : Value → Shared → Prop} {D b : Addr} {kvs : List (List Key × V)} {k : List Key} {v : V} {u r : Value} {Q : Unit → Shared → Prop} (hu : X.A.units + 1 < cLine) (Iv : Inv X pq σ H s)
    (eb : H b = some (.tup (k.map kV))) (hD : H D = some (.dT kvs)) (hz : kvs.length < sizeLine) (ry : RelV (.ref b) u) (rv : RelV v r) (h : ∀ s', Inv X pq σ (upd H D (.dT (putK kvs k v))) s' → Q () s') : wpAny (model X.prog X.w) X.A (dictSet D u r) Q E s := by
  cases (show u = Value.ref b from ry)
  obtain ⟨z, hd, xs, rel, dd⟩ := dt_of Iv.hok hD
  have hz' : xs.length ≤ sizeLine := by rw [← Paired.length rel]; exact z
  have hl : (putK kvs k v).length ≤ sizeLine := by have := length_putK kvs k v; omega
  refine wpAny_dictSet_heap (hsz := hz') ((by show _ < cLine; exact Nat.lt_of_le_of_lt (Nat.le_succ _) hu)) (key_of Iv.hok eb) dd fun h' dd' hs => h _ ?_
  obtain ⟨q, es, ep, hq, h2, h3, h4, _, h5⟩ := dd'
  refine d_write Iv (by rw [hD]; exact True.intro) hs ⟨q, hq⟩ ⟨hl, hd, _, (rel.put k eb rv).keeps fun c ys ec => ?_, q, es, ep, hq, h2, h3, h4, h5⟩
  rw [upd_ne (ne_of ec hD (fun z => nomatch z))]
  exact ec
section
variable {X : Cx}
def tDcT (wi : TI) (g : TG) (tt : TT) (tk tv : TE) (vs : List Nat) : TE := fun σ H Q => wi σ H fun J H1 => ∀ D, H1 D = none → ∃ W : Nat → Nat → Hp → Prop, (∃ m, W 0 m (upd H1 D (.dT []))) ∧ ∀ i m H, W i m H →
  (J.stop i H ∧ Q (.ref D) H) ∨ (J.go i H ∧ ∃ Nx : Hp → Prop, (∀ H', Nx H' → ∃ m', m' < m ∧ W (i + 1) m' H') ∧ ∀ x H', J.yld i H x H' → g x (wipe σ vs) H' fun σ2 B2 => wipe σ2 vs = wipe σ vs ∧ tt σ2 B2 fun b B3 =>
    if b = true then tk σ2 B3 fun y H4 => tv σ2 H4 fun z B5 => ∃ (kvs : List (List Key × V)) (k : List Key) (b : Addr), y = .ref b ∧ B5 b = some (.tup (k.map kV)) ∧ B5 D = some (.dT kvs) ∧ kvs.length < sizeLine ∧ Nx (upd B5 D (.dT (putK kvs k z))) else Nx B3)
theorem dcT_core {pq : List (Addr × Obj)} {s : Shared} {σ : L2.St} {H : Hp} {Q : VK} {kx vx tg iter : Expr} {ifs : List Expr} {scope : Scope} {own : List (Str × Nat)} {pos pos' : Pos} {wi : TI} {g : TG} {tt : TT} {tk tv : TE} {use : Option (Value → Sem Unit)} {Qf : Value → Shared → Prop}
    (hu : X.A.units + 1 < cLine) (hc : X.calm = true) (hN : X.N.Nodup) (Iv : Inv X pq σ H s) (hi : PI X tg iter wi) (ok : BlkOk X.N X.env.scope scope own)
    (hgg : ∀ (s : Shared) (H : Hp) (C : Addr) (cl : List (Str × Addr)) (fq : List Addr), PG (X.blk s H scope (compEnvC scope cl C X.env) fq) tg g) (htt : ∀ (s : Shared) (H : Hp) (C : Addr) (cl : List (Str × Addr)) (fq : List Addr), PTs (X.blk s H scope (compEnvC scope cl C X.env) fq) ifs tt)
    (hkk : ∀ (s : Shared) (H : Hp) (C : Addr) (cl : List (Str × Addr)) (fq : List Addr), PE (X.blk s H scope (compEnvC scope cl C X.env) fq) kx tk)
    (hee : ∀ (s : Shared) (H : Hp) (C : Addr) (cl : List (Str × Addr)) (fq : List Addr), PE (X.blk s H scope (compEnvC scope cl C X.env) fq) vx tv) (hs : ∀ x, foldedSetIterable iter X.env x = pure x)
    (h : tDcT wi g tt tk tv (own.map (·.2)) σ H Q)
    (hRR : ∀ D C s' m H', Inv X pq σ H' s' → Q (.ref D) H' → s'.heap.Ns C m → FpOk X pq H' C → compPost (model X.prog X.w) X.A X.xe use Qf (.ref D) C (.ok .next) s') :
    wpAny (model X.prog X.w) X.A (comprehension (.DictComp kx vx [⟨tg, iter, ifs, 0⟩] scope pos) scope X.env pos' newDict false (eval iter X.env) use) Qf X.xe s := by
  have hfree : ∀ y ∈ scope.names, y.2 = .free → ∃ c, X.env.cells.lookup y.1 = some c := fun y hy e => by
    rcases ok.free y hy e with k | k
    · exact Iv.ok.has _ (.inl k)
    · exact Iv.ok.has _ (.inr k)
  refine wpAny_comprehension_free (use := use) rfl hs (closure_ok hfree) ok.kind (fun y hy e => by rw [ok.uniq y hy, e])
    (thn (hi.run pq s σ H _ Iv h) fun xv z1 hx => thn hx fun itv z2 h2 => ?_)
  obtain ⟨it, fq, tn, J, B2, e, Iv2, T, st2, f2, q⟩ := h2
  subst e
  refine wpAny_newObj_type (newEnv_comp ?_)
  generalize hD : z2.heap.objs.size = D
  have hDn : B2 D = none := Iv2.hok.fresh (Nat.le_of_eq hD)
  obtain ⟨W, ⟨m0, w0⟩, trn⟩ := q D hDn
  generalize hs3 : ({ z2 with heap := z2.heap.push { cls := .type "dict", data := .dict #[] } } : Shared) = z3
  have Iv3 : Inv X pq σ (upd B2 D (.dT [])) z3 := by
    rw [← hs3]
    refine Iv2.laid (t' := z2.toks) (fun b o e => Heap.get?_push_of_some _ e) (Nat.le_of_eq hD) ?_
    rw [← hD]
    exact dt_empty z2.heap Iv2.big
  have h3 : z3.heap = z2.heap.push { cls := .type "dict", data := .dict #[] } := by rw [← hs3]
  have sz : ∀ b ∈ fq, b < z2.heap.objs.size := fun b hb => by
    obtain ⟨o, e, _⟩ := T.obj _ _ st2 b hb
    exact Heap.lt_size e
  have f3 : ∀ b ∈ fq, FpOk X pq (upd B2 D (.dT [])) b ∧ b < z3.heap.objs.size := fun b hb => by
    have hlt := sz b hb
    refine ⟨⟨?_, (f2 b hb).2⟩, by rw [h3, Heap.size_push]; exact Nat.lt_succ_of_lt hlt⟩
    rw [upd_ne (by rw [← hD]; exact Nat.ne_of_lt hlt)]
    exact (f2 b hb).1
  have st3 : tn 0 z3.heap := T.keep _ _ _ st2 fun b _ o e => by rw [h3]; exact Heap.get?_push_of_some _ e
  have Iv4 := block_start Iv3 ok hN f3
  have pgg := hgg z3 (upd B2 D (.dT [])) z3.heap.objs.size (cellsFrom (z3.heap.objs.size + 1) scope.names (cloFrom X.env.cells scope.names [])) fq
  have ptt := htt z3 (upd B2 D (.dT [])) z3.heap.objs.size (cellsFrom (z3.heap.objs.size + 1) scope.names (cloFrom X.env.cells scope.names [])) fq
  have pkk := hkk z3 (upd B2 D (.dT [])) z3.heap.objs.size (cellsFrom (z3.heap.objs.size + 1) scope.names (cloFrom X.env.cells scope.names [])) fq
  have pee := hee z3 (upd B2 D (.dT [])) z3.heap.objs.size (cellsFrom (z3.heap.objs.size + 1) scope.names (cloFrom X.env.cells scope.names [])) fq
  show codeAny _ _ (.compStart (.DictComp kx vx [⟨tg, iter, ifs, 0⟩] scope pos) 0 (.ref it) (.ref D) (compEnvC scope (cellsFrom (z3.heap.objs.size + 1) scope.names (cloFrom X.env.cells scope.names [])) z3.heap.objs.size X.env)) (compPost (model X.prog X.w) X.A X.xe use Qf (.ref D) z3.heap.objs.size) { z3 with heap := pushCells (z3.heap.push { cls := .type "dict", data := .dict #[] }) scope.names }
  have nfp : ∀ b ∈ fq, (upd B2 D (.dT [])) b = none := fun b hb => (f3 b hb).1.1
  generalize hce : compEnvC scope (cellsFrom (z3.heap.objs.size + 1) scope.names (cloFrom X.env.cells scope.names [])) z3.heap.objs.size X.env = ce at Iv4 pgg ptt pkk pee ⊢
  have cL : ce.locals = z3.heap.objs.size := by subst hce; rfl
  generalize hH3 : upd B2 D (.dT []) = B3 at Iv3 Iv4 pgg ptt pkk pee w0 nfp f3
  generalize hs4 : ({ z3 with heap := pushCells (z3.heap.push { cls := .type "dict", data := .dict #[] }) scope.names } : Shared) = z4 at Iv4 ⊢
  have st4 : tn 0 z4.heap := T.keep _ _ _ st3 fun b _ o e => by rw [← hs4]; exact pushCells_keeps _ _ _ _ (Heap.get?_push_of_some _ e)
  have stt : ∀ {σ' : L2.St} {H' : Hp} {s' : Shared}, Inv (X.blk z3 B3 scope ce fq) [] σ' H' s' → (∀ b ∈ fq, H' b = none) → ∀ b ∈ fq, FpOk (X.blk z3 B3 scope ce fq) [] H' b := fun {σ' H' s'} Iv' hn b hb =>
    ⟨hn b hb, (Iv'.ok.exf b hb).1, Iv'.ok.exfs b hb, .inl hb, fun x c e => (Iv'.ok.exf b hb).2 x c e, fun p hp => absurd (show p ∈ ([] : List (Addr × Obj)) ++ [] from hp) (by simp)⟩
  have lp : codeAny (model X.prog X.w) X.A (.compLoop (.DictComp kx vx [⟨tg, iter, ifs, 0⟩] scope pos) 0 (.ref it) (.ref D) ce) (compPost (model X.prog X.w) X.A X.xe use Qf (.ref D) z3.heap.objs.size) z4 := by
    refine compLoop_anyD (fun n s' => ∃ i H', Inv (X.blk z3 B3 scope ce fq) [] (wipe σ (own.map (·.2))) H' s' ∧ tn i s'.heap ∧ (∀ b ∈ fq, H' b = none) ∧ W i n H') ?_ m0 ⟨0, B3, Iv4, st4, nfp, w0⟩
    rintro n z5 ⟨i, B5, Iv5, st5, n5, w5⟩
    rcases trn i n B5 w5 with ⟨stop, qq⟩ | ⟨go, Nx, hNx, step⟩
    · have td := T.done (X.blk z3 B3 scope ce fq) rfl rfl rfl hc i [] z5 _ B5 (fun _ _ => False) Iv5 (stt Iv5 n5) st5 stop
      refine thnF td fun r z6 ⟨hr, Iv6⟩ => ?_
      subst hr
      have Iv7 : Inv X pq σ B5 z6 := Iv3.call' (ch := fq) Iv6.os Iv6.base Iv6.hok Iv6.bare fun b hb => ⟨(f3 b hb).1.2.2.2.1, (f3 b hb).1.2.1, (f3 b hb).1.2.2.2.2.1, (f3 b hb).1.2.2.2.2.2⟩
      have nC : B5 z3.heap.objs.size = none := by
        have z : B5 ce.locals = none := Iv6.free
        rw [cL] at z
        exact z
      obtain ⟨m, hn, _⟩ := Iv6.loc
      have hn : z6.heap.Ns ce.locals m := hn
      rw [cL] at hn
      exact hRR D z3.heap.objs.size z6 m B5 Iv7 qq hn (Iv3.fpOk (Nat.le_refl _) nC)
    · have ti := T.item (X.blk z3 B3 scope ce fq) rfl rfl rfl hc i [] z5 _ B5 (fun _ _ => False) Iv5 (stt Iv5 n5) st5 go
      refine thnF ti fun r z6 ⟨u, hr, h6⟩ => ?_
      subst hr
      refine thnF h6 fun _ z7 ⟨x, B7, Iv7, r7, y7, st7, n7⟩ => ?_
      have Iv7' := Iv7.pinned (stt Iv7 n7) (T.obj _ _ st7)
      refine thnF (pgg.run _ z7 _ B7 x u _ Iv7' r7 (step x B7 y7)) fun _ z8 ⟨σ8, B8, Iv8, hw8, q8⟩ => ?_
      refine thnF (ptt.run _ z8 σ8 B8 _ Iv8 q8) fun b z9 ⟨B9, Iv9, q9⟩ => ?_
      have fi : ∀ {s' : Shared} {H' : Hp}, Inv (X.blk z3 B3 scope ce fq) ([] ++ pinsAt fq z7.heap) σ8 H' s' → Nx H' → ∃ m, m < n ∧ ∃ i H', Inv (X.blk z3 B3 scope ce fq) [] (wipe σ (own.map (·.2))) H' s' ∧ tn i s'.heap ∧ (∀ b ∈ fq, H' b = none) ∧ W i m H' := fun {s' H'} Iv' nx => by
        obtain ⟨m', hm, w'⟩ := hNx H' nx
        have pin' : ∀ b ∈ fq, ∀ o, z7.heap.get? b = some o → s'.heap.get? b = some o ∧ H' b = none := fun b hb o e =>
          let z := Iv'.pin (b, o) (List.mem_append_right _ (List.mem_append_right _ (mem_pinsAt hb e)))
          ⟨z.1, z.2.1⟩
        have hl : (wipe σ (own.map (·.2))).length = σ8.length := by rw [← hw8, wipe_length]
        refine ⟨m', hm, i + 1, H', (Iv'.unpinned (pins := [])).weak hl (fun j v e => ?_), T.keep _ _ _ st7 fun b hb o e => (pin' b hb o e).1, fun b hb => ?_, w'⟩
        · rw [← hw8] at e
          exact (wipe_some e).1
        · obtain ⟨o, e, _⟩ := T.obj _ _ st7 b hb
          exact (pin' b hb o e).2
      cases b with
      | false =>
        simp only [Bool.false_eq_true, if_false] at q9 ⊢
        exact fi Iv9 q9
      | true =>
        simp only [if_true] at q9 ⊢
        refine thnF (pkk.run _ z9 σ8 B9 _ Iv9 q9) fun z z10 ⟨yk, B10, Iv10, r10, q10⟩ => ?_
        refine thnF (pee.run _ z10 σ8 B10 _ Iv10 q10) fun z2 z11 ⟨yv, B11, Iv11, r11, kvs, k, b, ek, hb11, hD11, hz11, nx⟩ => ?_
        subst ek
        exact d_dictSetT (X := X.blk z3 B3 scope ce fq) hu Iv11 hb11 hD11 hz11 r10 r11 fun z12 Iv12 => fi Iv12 nx
  exact codeAny_compStart_dict lp (T.self X.A 0 _ _ _ st4 lp)
theorem pe_dcT {kx vx tg iter : Expr} {ifs : List Expr} {scope : Scope} {own : List (Str × Nat)} {pos : Pos} {wi : TI} {g : TG} {tt : TT} {tk tv : TE} (hu : X.A.units + 1 < cLine) (hc : X.calm = true) (hN : X.N.Nodup) (hi : PI X tg iter wi) (ok : BlkOk X.N X.env.scope scope own)
    (hgg : ∀ (s : Shared) (H : Hp) (C : Addr) (cl : List (Str × Addr)) (fq : List Addr), PG (X.blk s H scope (compEnvC scope cl C X.env) fq) tg g) (htt : ∀ (s : Shared) (H : Hp) (C : Addr) (cl : List (Str × Addr)) (fq : List Addr), PTs (X.blk s H scope (compEnvC scope cl C X.env) fq) ifs tt)
    (hkk : ∀ (s : Shared) (H : Hp) (C : Addr) (cl : List (Str × Addr)) (fq : List Addr), PE (X.blk s H scope (compEnvC scope cl C X.env) fq) kx tk)
    (hee : ∀ (s : Shared) (H : Hp) (C : Addr) (cl : List (Str × Addr)) (fq : List Addr), PE (X.blk s H scope (compEnvC scope cl C X.env) fq) vx tv) (hs : ∀ x, foldedSetIterable iter X.env x = pure x := by intro _; rfl) :
    PE X (.DictComp kx vx [⟨tg, iter, ifs, 0⟩] scope pos) (tDcT wi g tt tk tv (own.map (·.2))) := by
  refine ⟨fun pq s σ H Q Iv h => ?_⟩
  rw [arm_eval_DictComp]
  refine dcT_core hu hc hN Iv hi ok hgg htt hkk hee hs h fun D C s' m H' Iv' q hn f => ⟨m, hn, fun h'' sb => ?_⟩
  obtain ⟨f0, f1, f2, f3, f4, f5⟩ := f
  exact ⟨.ref D, H', Iv'.turned (t' := s'.toks) (fun b o hb e => (sb.2 b hb).trans e) f0 f1 f3 f4 f5, rfl, q⟩
end
end Hx
namespace Hx
open PySem PySem.Spec PyProof.Rows L2
theorem putT_len (kvs : List (List Key × V)) (k : List Key) (v : V) : (putK kvs k v).length ≤ kvs.length + 1 := length_putK kvs k v
theorem foldT_mem : ∀ (l : List (List Key × V)) (acc : List (List Key × V)) (k : List Key), (valV (l.foldl (fun acc p => putK acc p.1 p.2) acc) k).isSome = true ↔ (valV acc k).isSome = true ∨ ∃ p ∈ l, p.1 = k
  | [], acc, k => by simp
  | p :: l, acc, k => by
    rw [List.foldl_cons, foldT_mem l, valV_put]
    by_cases h : k = p.1
    · rw [if_pos h]
      exact ⟨fun _ => .inr ⟨p, List.mem_cons_self .., h.symm⟩, fun _ => .inl rfl⟩
    · rw [if_neg h]
      constructor
      · rintro (z | ⟨q, hq, e⟩)
        · exact .inl z
        · exact .inr ⟨q, List.mem_cons_of_mem _ hq, e⟩
      · rintro (z | ⟨q, hq, e⟩)
        · exact .inl z
        · rcases List.mem_cons.mp hq with rfl | hq
          · exact absurd e.symm h
          · exact .inr ⟨q, hq, e⟩
section
variable {K : PySem.W.Frag} {M : Addr → Prop} {G H : Hp} {σ : L2.St} {g : TG} {tk tv : TE} {vs : List Nat}
/-- {k: v for .. in ..}: nothing but the dict is laid -/
theorem dcWT {J : It} {n : Nat} {Wg : Hp → Prop} {Y : Nat → Hp → V → Hp → Prop} (W : Walk J n Wg Y) (e : Ex G H) (hWg : ∀ H', Ex G H' → Wg H') (hn : n ≤ 1000000) (f : Nat → List Key × V) (σt : Nat → L2.St)
    (hg : ∀ i x G' H' H'', i < n → Stp M G H G' H' → Y i H' x H'' → ∀ Q : L2.St → Hp → Prop, (∀ G2 H2, Stp M G' H' G2 H2 → Q (σt i) H2) → g x (wipe σ vs) H'' Q) (hw : ∀ i, i < n → wipe (σt i) vs = wipe σ vs)
    (hk : ∀ i G' H', i < n → Stp M G H G' H' → ∀ Q : VK, (∀ b G2 H2, Stp M G' H' G2 H2 → G2 b = some (.tup ((f i).1.map kV)) → Q (.ref b) H2) → tk (σt i) H' Q)
    (hv : ∀ i G' H', i < n → Stp M G H G' H' → ∀ Q : VK, (∀ G2 H2, Stp M G' H' G2 H2 → Q (f i).2 H2) → tv (σt i) H' Q) (hM : ∀ D, H D = none → ¬ M D) {D : Addr} (hD : H D = none) {Qd : Hp → Prop}
    (hd : ∀ G' H', Stp M G H G' H' → G' D = none → H' D = some (.dT (((List.range n).map f).foldl (fun (acc : List (List Key × V)) p => putK acc p.1 p.2) [])) → Qd H') :
    ∃ W : Nat → Nat → Hp → Prop, (∃ m, W 0 m (upd H D (.dT []))) ∧ ∀ i m H, W i m H →
      (J.stop i H ∧ Qd H) ∨ (J.go i H ∧ ∃ Nx : Hp → Prop, (∀ H', Nx H' → ∃ m', m' < m ∧ W (i + 1) m' H') ∧ ∀ x H', J.yld i H x H' → g x (wipe σ vs) H' fun σ2 H2 => wipe σ2 vs = wipe σ vs ∧ tYes σ2 H2 fun b H3 =>
        if b = true then tk σ2 H3 fun y H4 => tv σ2 H4 fun z H5 => ∃ (kvs : List (List Key × V)) (k : List Key) (b : Addr), y = .ref b ∧ H5 b = some (.tup (k.map kV)) ∧ H5 D = some (.dT kvs) ∧ kvs.length < sizeLine ∧ Nx (upd H5 D (.dT (putK kvs k z))) else Nx H3) := by
  refine ⟨fun i m H' => m = n - i ∧ i ≤ n ∧ ∃ G', Stp M G H G' H' ∧ G' D = none ∧ H' D = some (.dT (((List.range i).map f).foldl (fun (acc : List (List Key × V)) p => putK acc p.1 p.2) [])) ∧ (((List.range i).map f).foldl (fun (acc : List (List Key × V)) p => putK acc p.1 p.2) []).length ≤ i,
    ⟨n, by simp, Nat.zero_le _, G, Stp.lay e hD, Evl.fresh_back e hD, upd_same, Nat.zero_le _⟩, ?_⟩
  rintro i m H' ⟨rfl, hi, G', a, gD, hS, hl⟩
  by_cases hlt : i < n
  · refine .inr ⟨W.goes i H' hlt (hWg H' (a.gg.trans a.gh)), fun H2 => i + 1 ≤ n ∧ ∃ G', Stp M G H G' H2 ∧ G' D = none ∧ H2 D = some (.dT (((List.range (i + 1)).map f).foldl (fun (acc : List (List Key × V)) p => putK acc p.1 p.2) [])) ∧ (((List.range (i + 1)).map f).foldl (fun (acc : List (List Key × V)) p => putK acc p.1 p.2) []).length ≤ i + 1, fun H2 q => ⟨n - (i + 1), by omega, rfl, q⟩, fun x H2 y => ?_⟩
    refine hg i x G' H' H2 hlt a (W.yields i H' x H2 hlt (hWg _ (a.gg.trans a.gh)) y) _ fun G3 H3 b => ⟨hw i hlt, ?_⟩
    refine tYes_ifS ?_
    refine hk i G3 H3 hlt (a.trans b) _ fun kb G4 H4 c hkb => ?_
    refine hv i G4 H4 hlt ((a.trans b).trans c) _ fun G5 H5 d => ?_
    have hS3 := b.hh D _ (hM D hD) hS
    have hS4 := c.hh D _ (hM D hD) hS3
    have hS5 := d.hh D _ (hM D hD) hS4
    have g5 : G5 D = none := d.fr D (some_ne hS4) (c.fr D (some_ne hS3) (b.fr D (some_ne hS) gD))
    have er : ((List.range (i + 1)).map f).foldl (fun (acc : List (List Key × V)) p => putK acc p.1 p.2) [] = putK (((List.range i).map f).foldl (fun (acc : List (List Key × V)) p => putK acc p.1 p.2) []) (f i).1 (f i).2 := by
      rw [List.range_succ, List.map_append, List.foldl_append]; rfl
    refine ⟨_, (f i).1, kb, rfl, d.gh _ _ (d.gg _ _ hkb), hS5, Nat.lt_of_le_of_lt hl (sz _ (by omega)), hlt, G5, (((a.trans b).trans c).trans d).mut (.inl hD) g5, g5, ?_, ?_⟩
    · rw [er]; exact upd_same
    · rw [er]; exact Nat.le_trans (putT_len _ _ _) (by omega)
  · have en : i = n := by omega
    subst en
    exact .inl ⟨W.stops H' (hWg _ (a.gg.trans a.gh)), hd G' H' a gD hS⟩
end
end Hx
/-! y = {k: v for ..}, y a local -/
namespace Hx
open PySem PySem.Spec PyProof.Rows L2
section
variable {X : Cx}
theorem ps_setDc {i : Nat} {y : Str} {py : Pos} {kx vx tg iter : Expr} {ifs : List Expr} {scope : Scope} {own : List (Str × Nat)} {pos sp : Pos} {wi : TI} {g : TG} {tt : TT} {tk tv : TE} (hc : X.calm = true) (hN : X.N.Nodup) (hnm : X.N[i]? = some y) (hloc : X.env.scope.names.lookup y = some .local)
    (hsw : swapsWith (.DictComp kx vx [⟨tg, iter, ifs, 0⟩] scope pos) (some (.Name y py)) sp.line X.env = pure true) (hi : PI X tg iter wi) (ok : BlkOk X.N X.env.scope scope own)
    (hgg : ∀ (s : Shared) (H : Hp) (C : Addr) (cl : List (Str × Addr)) (fq : List Addr), PG (X.blk s H scope (compEnvC scope cl C X.env) fq) tg g) (htt : ∀ (s : Shared) (H : Hp) (C : Addr) (cl : List (Str × Addr)) (fq : List Addr), PTs (X.blk s H scope (compEnvC scope cl C X.env) fq) ifs tt)
    (hkk : ∀ (s : Shared) (H : Hp) (C : Addr) (cl : List (Str × Addr)) (fq : List Addr), PE (X.blk s H scope (compEnvC scope cl C X.env) fq) kx tk)
    (hvv : ∀ (s : Shared) (H : Hp) (C : Addr) (cl : List (Str × Addr)) (fq : List Addr), PE (X.blk s H scope (compEnvC scope cl C X.env) fq) vx tv) (hs : ∀ x, foldedSetIterable iter X.env x = pure x := by intro _; rfl) :
    PS X (.Assign [.Name y py] (.DictComp kx vx [⟨tg, iter, ifs, 0⟩] scope pos) sp) (tAsg (tDc wi g tt tk tv (own.map (·.2))) (gName i)) := by
  refine ⟨fun pq s σ H D Iv h => ?_⟩
  rw [exec_Assign_Name_used _ _ _ _ hsw]
  refine wpAny_bind (wpAny_standAt (wpAny_bind ?_))
  show wpAny _ X.A (do let _ ← comprehension (.DictComp kx vx [⟨tg, iter, ifs, 0⟩] scope pos) scope X.env (firstIterPos [⟨tg, iter, ifs, 0⟩] pos) newDict false (eval iter X.env) (some (assign (.Name y py) X.env))) _ _ s
  have h : tDc wi g tt tk tv (own.map (·.2)) σ H (fun x H1 => gName i x σ H1 D.nx) := h
  refine wpAny_bind (thn (dc_core (Qf := fun _ s' => SP X pq D .next s') hc hN Iv hi ok hgg htt hkk hvv hs h fun L C s' m H' Iv' q hn f => ?_) fun _ s' hq => wpAny_pure (wpAny_pure hq))
  show wpAny _ _ (assign (.Name y py) X.env (.ref L)) _ _ _
  refine wpAny_assign_Name (store_ok2 (v := V.ref L) Iv' hN hnm (.inl hloc) rfl (fun z2 Iv2 ⟨a, but, hnot⟩ => ?_) (.inr hloc))
  obtain ⟨f0, f1, f2, f3, f4, f5⟩ := f
  have hCa : C ≠ a := by
    rcases hnot with z | z
    · rw [z]; exact f1
    · exact fun e => f4 y a z e.symm
  refine ⟨m, hn.sameBut but hCa, fun g3 but3 => ?_⟩
  exact ⟨_, H', Iv2.turned (t' := z2.toks) (fun b o hbk e => (but3.2 b hbk).trans e) f0 f1 f3 f4 f5, q⟩
theorem ps_setDcT {i : Nat} {y : Str} {py : Pos} {kx vx tg iter : Expr} {ifs : List Expr} {scope : Scope} {own : List (Str × Nat)} {pos sp : Pos} {wi : TI} {g : TG} {tt : TT} {tk tv : TE} (hu : X.A.units + 1 < cLine) (hc : X.calm = true) (hN : X.N.Nodup) (hnm : X.N[i]? = some y) (hloc : X.env.scope.names.lookup y = some .local)
    (hsw : swapsWith (.DictComp kx vx [⟨tg, iter, ifs, 0⟩] scope pos) (some (.Name y py)) sp.line X.env = pure true) (hi : PI X tg iter wi) (ok : BlkOk X.N X.env.scope scope own)
    (hgg : ∀ (s : Shared) (H : Hp) (C : Addr) (cl : List (Str × Addr)) (fq : List Addr), PG (X.blk s H scope (compEnvC scope cl C X.env) fq) tg g) (htt : ∀ (s : Shared) (H : Hp) (C : Addr) (cl : List (Str × Addr)) (fq : List Addr), PTs (X.blk s H scope (compEnvC scope cl C X.env) fq) ifs tt)
    (hkk : ∀ (s : Shared) (H : Hp) (C : Addr) (cl : List (Str × Addr)) (fq : List Addr), PE (X.blk s H scope (compEnvC scope cl C X.env) fq) kx tk)
    (hvv : ∀ (s : Shared) (H : Hp) (C : Addr) (cl : List (Str × Addr)) (fq : List Addr), PE (X.blk s H scope (compEnvC scope cl C X.env) fq) vx tv) (hs : ∀ x, foldedSetIterable iter X.env x = pure x := by intro _; rfl) :
    PS X (.Assign [.Name y py] (.DictComp kx vx [⟨tg, iter, ifs, 0⟩] scope pos) sp) (tAsg (tDcT wi g tt tk tv (own.map (·.2))) (gName i)) := by
  refine ⟨fun pq s σ H D Iv h => ?_⟩
  rw [exec_Assign_Name_used _ _ _ _ hsw]
  refine wpAny_bind (wpAny_standAt (wpAny_bind ?_))
  show wpAny _ X.A (do let _ ← comprehension (.DictComp kx vx [⟨tg, iter, ifs, 0⟩] scope pos) scope X.env (firstIterPos [⟨tg, iter, ifs, 0⟩] pos) newDict false (eval iter X.env) (some (assign (.Name y py) X.env))) _ _ s
  have h : tDcT wi g tt tk tv (own.map (·.2)) σ H (fun x H1 => gName i x σ H1 D.nx) := h
  refine wpAny_bind (thn (dcT_core (Qf := fun _ s' => SP X pq D .next s') hu hc hN Iv hi ok hgg htt hkk hvv hs h fun L C s' m H' Iv' q hn f => ?_) fun _ s' hq => wpAny_pure (wpAny_pure hq))
  show wpAny _ _ (assign (.Name y py) X.env (.ref L)) _ _ _
  refine wpAny_assign_Name (store_ok2 (v := V.ref L) Iv' hN hnm (.inl hloc) rfl (fun z2 Iv2 ⟨a, but, hnot⟩ => ?_) (.inr hloc))
  obtain ⟨f0, f1, f2, f3, f4, f5⟩ := f
  have hCa : C ≠ a := by
    rcases hnot with z | z
    · rw [z]; exact f1
    · exact fun e => f4 y a z e.symm
  refine ⟨m, hn.sameBut but hCa, fun g3 but3 => ?_⟩
  exact ⟨_, H', Iv2.turned (t' := z2.toks) (fun b o hbk e => (but3.2 b hbk).trans e) f0 f1 f3 f4 f5, q⟩
theorem sw_dict {kx vx : Expr} {gs : List Comprehension} {scope : Scope} {pos py : Pos} {y : Str} {l : Nat} {env : Env} (hkk : env.scope.kind = .function) (hnm : env.scope.names.lookup y = some .local) (hln : (py.line == pos.line) = true)
    (hnot : (scope.names.any fun (n, k) => n == y && (k == .local || k == .cell)) = false) : swapsWith (.DictComp kx vx gs scope pos) (some (.Name y py)) l env = pure true := by
  have kny : env.kindOf y = some .local := hnm
  have hbk : env.blockKind = .function := by unfold Env.blockKind; rw [hkk]; rfl
  unfold swapsWith
  simp only [hbk, kny, hnot, Expr.pos, hln]
  rfl
end
end Hx
/-! dicts whose keys are tuples of any depth: flat items and tuples of such -/
namespace Hx
open PySem PySem.Spec PyProof.Rows L2
mutual
def nk : PyData → NestedKey
  | .none => .none
  | .bool b => .num (if b = true then 1 else 0)
  | .int i => .num i
  | .str x => .text x
  | .list _ => .none
  | .tuple ds => .tup (nks ds)
  | .dict _ => .none
def nks : List PyData → List NestedKey
  | [] => []
  | d :: ds => nk d :: nks ds
end
mutual
/-- flat, or a tuple of such -/
def keyD : PyData → Bool
  | .none => true
  | .bool _ => true
  | .int _ => true
  | .str _ => true
  | .list _ => false
  | .tuple ds => keysD ds
  | .dict _ => false
def keysD : List PyData → Bool
  | [] => true
  | d :: ds => keyD d && keysD ds
end
/-- the tuples stay -/
def TpS (H H' : Hp) : Prop := ∀ b xs, H b = some (.tup xs) → H' b = some (.tup xs)
theorem TpS.ex {H H' : Hp} (e : Ex H H') : TpS H H' := fun b xs h => e _ _ h
theorem TpS.trans {H H1 H2 : Hp} (a : TpS H H1) (b : TpS H1 H2) : TpS H H2 := fun x xs h => b _ _ (a _ _ h)
theorem TpS.refl (H : Hp) : TpS H H := fun _ _ h => h
theorem TpS.put {H : Hp} {a : Addr} {o u : HO} (h : H a = some u) (n : ∀ xs, u ≠ .tup xs) : TpS H (L2.upd H a o) := fun b xs e => by
  have : b ≠ a := fun z => by rw [z, h] at e; exact n xs (Option.some.inj e)
  rw [upd_ne this]; exact e
theorem dt_ts {H H' : Hp} (t : TpS H H') : ∀ (d : PyData) (v : V), keyD d = true → Dt H v d → Dt H' v d := by
  intro d
  refine PyData.rec (motive_1 := fun d => ∀ v, keyD d = true → Dt H v d → Dt H' v d) (motive_2 := fun ds => ∀ vs, keysD ds = true → DtAll H vs ds → DtAll H' vs ds) (motive_3 := fun _ => True) (motive_4 := fun _ => True) ?_ ?_ ?_ ?_ ?_ ?_ ?_ ?_ ?_ ?_ ?_ ?_ d
  · intro v _ h; cases h; exact .non
  · intro b v _ h; cases h; exact .bl b
  · intro i v _ h; cases h; exact .int i
  · intro x v _ h; cases h; exact .str x
  · intro xs ih v hk h; rw [keyD] at hk; cases hk
  · intro xs ih v hk h
    cases h with
    | tup hs ha => exact .tup (t _ _ hs) (ih _ (by rw [keyD] at hk; exact hk) ha)
  · intro kvs _ v hk h; rw [keyD] at hk; cases hk
  · intro vs _ h; cases h; exact .nil
  · intro d ds ih ihs vs hk h
    rw [keysD, Bool.and_eq_true] at hk
    cases h with
    | cons h1 h2 => exact .cons (ih _ hk.1 h1) (ihs _ hk.2 h2)
  · trivial
  · intros; trivial
  · intros; trivial
theorem dt_nk {P : Program} {w : World} {H : Hp} {h : Heap} (ok : HOk P w H h) : ∀ (d : PyData) (v : V), keyD d = true → Dt H v d → ∀ u, RelV v u → NestedIs h (nk d) u := by
  intro d
  refine PyData.rec (motive_1 := fun d => ∀ v, keyD d = true → Dt H v d → ∀ u, RelV v u → NestedIs h (nk d) u) (motive_2 := fun ds => ∀ vs, keysD ds = true → DtAll H vs ds → ∀ us, Vals vs us → NestedAll h (nks ds) us) (motive_3 := fun _ => True) (motive_4 := fun _ => True) ?_ ?_ ?_ ?_ ?_ ?_ ?_ ?_ ?_ ?_ ?_ ?_ d
  · intro v _ k u r; cases k; cases r; exact .none
  · intro b v _ k u r; cases k; cases r; exact .bool rfl
  · intro i v _ k u r; cases k; obtain ⟨t, rfl⟩ := r; exact .int _ _
  · intro x v _ k u r; cases k; obtain ⟨t, rfl⟩ := r; exact .text _ _
  · intro xs ih v hk k; rw [keyD] at hk; cases hk
  · intro xs ih v hk k u r
    cases k with
    | tup hs ha =>
      cases r
      obtain ⟨_, its, rv, o, h1, h2, n, h3⟩ := (show ObjOk P w H h _ (.tup _) from ok _ _ hs)
      rw [nk]
      exact .tup h1 h2 h3 (by simpa using ih _ (by rw [keyD] at hk; exact hk) ha its rv)
  · intro kvs _ v hk k; rw [keyD] at hk; cases hk
  · intro vs _ k us r; cases k; cases r; exact .nil
  · intro d ds ih ihs vs hk k us r
    rw [keysD, Bool.and_eq_true] at hk
    cases k with
    | cons h1 h2 =>
      cases r with
      | cons r1 r2 => exact .cons (ih _ hk.1 h1 _ r1) (ihs _ hk.2 h2 _ r2)
  · trivial
  · intros; trivial
  · intros; trivial
/-- y is the key k -/
def Ky (H : Hp) (y : V) (k : NestedKey) : Prop := ∃ b d, y = .ref b ∧ Dt H y d ∧ keyD d = true ∧ nk d = k ∧ k.depth ≤ 8
theorem Ky.ts {H H' : Hp} (t : TpS H H') {y : V} {k : NestedKey} (h : Ky H y k) : Ky H' y k := by
  obtain ⟨b, d, h1, h2, h3, h4⟩ := h
  exact ⟨b, d, h1, dt_ts t _ _ h3 h2, h3, h4⟩
theorem Ky.is {P : Program} {w : World} {H : Hp} {h : Heap} (ok : HOk P w H h) {b : Addr} {k : NestedKey} (x : Ky H (.ref b) k) : (nestedKind P w).is h k b := by
  obtain ⟨b', d, h1, h2, h3, h4, h5⟩ := x
  exact ⟨h4 ▸ dt_nk ok d _ h3 h2 _ rfl, h5⟩
abbrev KN : List (NestedKey × V) → List (NestedKey × Addr × Value) → Prop := Paired fun p q => p.1 = q.1 ∧ RelV p.2 q.2.2
theorem KN.val {kvs : List (NestedKey × V)} {xs : List (NestedKey × Addr × Value)} (r : KN kvs xs) (k : NestedKey) : RelO (valV kvs k) ((atKey xs k).map (·.2)) := by
  induction r with
  | nil => trivial
  | @cons p q ps qs z t ih =>
    obtain ⟨z1, z2⟩ := z
    by_cases e : q.1 = k
    · rw [valV_pos (z1.trans e), show atKey (q :: qs) k = some q.2 by simp [atKey, List.find?_cons, e]]; exact z2
    · rw [valV_neg (fun m => e (z1.symm.trans m)), show atKey (q :: qs) k = atKey qs k by simp [atKey, List.find?_cons, e]]; exact ih
theorem KN.put {kvs : List (NestedKey × V)} {xs : List (NestedKey × Addr × Value)} (r : KN kvs xs) (k : NestedKey) {b : Addr} {y : V} {u : Value} (ry : RelV y u) : KN (putK kvs k y) (storedH xs k b u) := by
  have rp : KN (kvs.map fun kv => if kv.1 = k then (kv.1, y) else kv) (xs.map (putAt k u)) := by
    clear b
    induction r with
    | nil => exact .nil
    | @cons p q ps qs z t ih =>
      refine .cons ?_ ih
      unfold putAt
      dsimp only
      by_cases e : q.1 = k
      · rw [if_pos (z.1.trans e), if_pos e]; exact ⟨z.1, ry⟩
      · rw [if_neg (fun m => e (z.1.symm.trans m)), if_neg e]; exact z
  have ea : (kvs.any fun kv => decide (kv.1 = k)) = (atKey xs k).isSome := by
    have q := r.val k
    rw [valV_any, q.isSome_eq, Option.isSome_map]
  unfold putK storedH
  rw [ea]
  split
  · exact rp
  · exact Paired.snoc r ⟨rfl, ry⟩
theorem KN.drop {kvs : List (NestedKey × V)} {xs : List (NestedKey × Addr × Value)} (r : KN kvs xs) (k : NestedKey) : KN (kvs.filter fun p => decide (p.1 ≠ k)) (withoutH xs k) := by
  induction r with
  | nil => exact .nil
  | @cons p q ps qs z t ih =>
    unfold withoutH at ih ⊢
    by_cases e : q.1 = k
    · rw [List.filter_cons_of_neg (by simp [z.1, e]), List.filter_cons_of_neg (by simp [e])]; exact ih
    · rw [List.filter_cons_of_pos (by simp [z.1, e]), List.filter_cons_of_pos (by simp [e])]; exact .cons z ih
/-- at a a dict of such keys; the keys' tuples stand at ads -/
def DNo (P : Program) (w : World) (a : Addr) (kvs : List (NestedKey × V)) (ads : List Addr) : HO := .ext fun h => kvs.length ≤ sizeLine ∧ (a == sysModules) = false ∧
  ∃ xs : List (NestedKey × Addr × Value), KN kvs xs ∧ xs.map (·.2.1) = ads ∧ ∃ o es ep, h.get? a = some o ∧ o.ExactDict ∧ o.data = .dict es ep ∧ es.toList = xs.map (entryOfKey (nestedKind P w)) ∧ (xs.map (·.1)).Nodup
def DN (P : Program) (w : World) (H : Hp) (a : Addr) (kvs : List (NestedKey × V)) : Prop := ∃ ads, H a = some (DNo P w a kvs ads) ∧ Paired (fun (p : NestedKey × V) b => Ky H (.ref b) p.1) kvs ads
/-- H', but for a, is H -/
def Only (H : Hp) (a : Addr) (H' : Hp) : Prop := ∀ b, b ≠ a → H' b = H b
section
variable {P : Program} {w : World} {H H' : Hp} {h : Heap} {a : Addr} {kvs : List (NestedKey × V)}
theorem DN.mv (x : DN P w H a kvs) (e : H' a = H a) (t : TpS H H') : DN P w H' a kvs := by
  obtain ⟨ads, h1, h2⟩ := x
  exact ⟨ads, e.trans h1, Paired.mapP h2 fun p b k => k.ts t⟩
theorem DN.ex (x : DN P w H a kvs) (e : Ex H H') : DN P w H' a kvs := by
  obtain ⟨ads, h1, h2⟩ := x
  exact ⟨ads, e _ _ h1, Paired.mapP h2 fun p b k => k.ts (TpS.ex e)⟩
theorem DN.isx (x : DN P w H a kvs) : ∃ φ, H a = some (.ext φ) := by
  obtain ⟨ads, h1, _⟩ := x
  exact ⟨_, h1⟩
theorem DN.ne (x : DN P w H a kvs) {b : Addr} {o : HO} (h : H b = some o) (n : ∀ φ, o ≠ .ext φ) : b ≠ a := fun z => by
  obtain ⟨φ, e⟩ := x.isx
  rw [z, e] at h
  exact n φ (Option.some.inj h).symm
theorem DN.ts (x : DN P w H a kvs) (e : Only H a H') : TpS H H' := fun b xs h => (e b (x.ne h (fun _ z => by cases z))).trans h
theorem DN.rd (ok : HOk P w H h) (x : DN P w H a kvs) : kvs.length ≤ sizeLine ∧ (a == sysModules) = false ∧
    ∃ xs, KN kvs xs ∧ h.DictOfH (nestedKind P w) a xs ∧ Paired (fun (p : NestedKey × V) (q : NestedKey × Addr × Value) => Ky H (.ref q.2.1) p.1) kvs xs := by
  obtain ⟨ads, h1, h2⟩ := x
  obtain ⟨⟨z, y, xs, r, rfl, o, es, ep, e1, e2, e3, e4, e5⟩, _⟩ := (show ObjOk P w H h a (DNo P w a kvs ads) from ok a _ h1)
  have h3 : ∀ {l : List (NestedKey × V)} {m : List (NestedKey × Addr × Value)}, Paired (fun (p : NestedKey × V) b => Ky H (.ref b) p.1) l (m.map (·.2.1)) → Paired (fun (p : NestedKey × V) (q : NestedKey × Addr × Value) => Ky H (.ref q.2.1) p.1) l m := by
    intro l m k
    induction m generalizing l with
    | nil => cases k; exact .nil
    | cons q m ih => cases k with | cons k1 k2 => exact .cons k1 (ih k2)
  have hk := h3 h2
  have all : ∀ {l : List (NestedKey × V)} {m : List (NestedKey × Addr × Value)}, KN l m → Paired (fun (p : NestedKey × V) (q : NestedKey × Addr × Value) => Ky H (.ref q.2.1) p.1) l m → ∀ x ∈ m, (nestedKind P w).is h x.1 x.2.1 := by
    intro l m k k'
    induction k with
    | nil => intro x hx; cases hx
    | @cons p q ps qs z t ih =>
      cases k' with
      | cons k1 k2 =>
        intro x hx
        rcases List.mem_cons.mp hx with rfl | hx
        · exact z.1 ▸ Ky.is ok k1
        · exact ih k2 x hx
  exact ⟨z, y, xs, r, ⟨o, es, ep, e1, e2, e3, e4, all r hk, e5⟩, hk⟩
theorem kys_put {kvs : List (NestedKey × V)} {xs : List (NestedKey × Addr × Value)} (r : KN kvs xs) (k' : Paired (fun (p : NestedKey × V) (q : NestedKey × Addr × Value) => Ky H (.ref q.2.1) p.1) kvs xs) {k : NestedKey} {b : Addr} (hk : Ky H (.ref b) k) {y : V} {u : Value} :
    Paired (fun (p : NestedKey × V) (q : NestedKey × Addr × Value) => Ky H (.ref q.2.1) p.1) (putK kvs k y) (storedH xs k b u) := by
  have rp : Paired (fun (p : NestedKey × V) (q : NestedKey × Addr × Value) => Ky H (.ref q.2.1) p.1) (kvs.map fun kv => if kv.1 = k then (kv.1, y) else kv) (xs.map (putAt k u)) := by
    clear hk b
    induction r with
    | nil => exact .nil
    | @cons p q ps qs z t ih =>
      cases k' with
      | cons k1 k2 =>
        refine .cons ?_ (ih k2)
        unfold putAt
        dsimp only
        by_cases e : q.1 = k
        · rw [if_pos (z.1.trans e), if_pos e]; exact k1
        · rw [if_neg (fun m => e (z.1.symm.trans m)), if_neg e]; exact k1
  have ea : (kvs.any fun kv => decide (kv.1 = k)) = (atKey xs k).isSome := by
    have q := r.val k
    rw [valV_any, q.isSome_eq, Option.isSome_map]
  unfold putK storedH
  rw [ea]
  split
  · exact rp
  · exact Paired.snoc k' hk
theorem kys_drop {kvs : List (NestedKey × V)} {xs : List (NestedKey × Addr × Value)} (r : KN kvs xs) (k' : Paired (fun (p : NestedKey × V) (q : NestedKey × Addr × Value) => Ky H (.ref q.2.1) p.1) kvs xs) {k : NestedKey} :
    Paired (fun (p : NestedKey × V) (q : NestedKey × Addr × Value) => Ky H (.ref q.2.1) p.1) (kvs.filter fun p => decide (p.1 ≠ k)) (withoutH xs k) := by
  induction r with
  | nil => exact .nil
  | @cons p q ps qs z t ih =>
    unfold withoutH at ih ⊢
    cases k' with
    | cons k1 k2 =>
      by_cases e : q.1 = k
      · rw [List.filter_cons_of_neg (by simp [z.1, e]), List.filter_cons_of_neg (by simp [e])]; exact ih k2
      · rw [List.filter_cons_of_pos (by simp [z.1, e]), List.filter_cons_of_pos (by simp [e])]; exact .cons k1 (ih k2)
end
section
variable {X : Cx} {pins : List (Addr × Obj)} {σ : L2.St} {H : Hp} {s : Shared} {a b : Addr} {kvs : List (NestedKey × V)} {k : NestedKey} {v : V} {u r : Value} {A : Around} {E : Value → Shared → Prop}
theorem dn_write {kvs' : List (NestedKey × V)} {xs' : List (NestedKey × Addr × Value)} {h' : Heap} {t' : Nat} (I : Inv X pins σ H s) (x : DN X.prog X.w H a kvs) (hl : kvs'.length ≤ sizeLine) (kn : KN kvs' xs') (ky : Paired (fun (p : NestedKey × V) (q : NestedKey × Addr × Value) => Ky H (.ref q.2.1) p.1) kvs' xs')
    (dd : h'.DictOfH (nestedKind X.prog X.w) a xs') (hs : Heap.SameBut a s.heap h') : ∃ H', Only H a H' ∧ DN X.prog X.w H' a kvs' ∧ Inv X pins σ H' { s with heap := h', toks := t' } := by
  obtain ⟨z, y, _⟩ := DN.rd I.hok x
  obtain ⟨φ, e⟩ := x.isx
  obtain ⟨q, es, ep, e1, e2, e3, e4, e5, e6⟩ := dd
  have on : Only H a (L2.upd H a (DNo X.prog X.w a kvs' (xs'.map (·.2.1)))) := fun c hc => upd_ne hc
  have ts := x.ts on
  refine ⟨_, on, ⟨_, upd_same, ?_⟩, d_write I (by rw [e]; exact True.intro) hs ⟨q, e1⟩ ⟨⟨hl, y, xs', kn, rfl, q, es, ep, e1, e2, e3, e4, e6⟩, ⟨q, e1⟩, fun h1 h2 p st => ?_⟩⟩
  · have gen : ∀ {l : List (NestedKey × V)} {m : List (NestedKey × Addr × Value)}, Paired (fun (p : NestedKey × V) (q : NestedKey × Addr × Value) => Ky H (.ref q.2.1) p.1) l m → Paired (fun (p : NestedKey × V) b => Ky (L2.upd H a (DNo X.prog X.w a kvs' (xs'.map (·.2.1)))) (.ref b) p.1) l (m.map (·.2.1)) := by
      intro l m k
      induction k with
      | nil => exact .nil
      | cons z t ih => exact .cons (z.ts ts) ih
    exact gen ky
  · obtain ⟨z1, z2, xs2, k1, k2, q2, es2, ep2, m1, m2⟩ := p
    exact ⟨z1, z2, xs2, k1, k2, q2, es2, ep2, st _ m1, m2⟩
theorem room_in1 (hu : A.units + 9 < cLine) : (nestedKind X.prog X.w).room A.in1 := by
  show A.in1.units + 8 < cLine
  have : A.in1.units = A.units + 1 := rfl
  omega
theorem dn_getItem {Q : Value → Shared → Prop} (hu : A.units + 9 < cLine) (I : Inv X pins σ H s) (x : DN X.prog X.w H a kvs) (hk : Ky H (.ref b) k) (l : valV kvs k = some v) (q : ∀ w' s', Inv X pins σ H s' → RelV v w' → Q w' s') :
    wpAny (model X.prog X.w) A (getItem (.ref a) (.ref b)) Q E s := by
  obtain ⟨z, hd, xs, rel, dd, _⟩ := DN.rd I.hok x
  obtain ⟨w', hw, rw'⟩ := RelO.some_of (v := v) (o := (atKey xs k).map (·.2)) (l ▸ rel.val k)
  obtain ⟨p, hp, rfl⟩ := Option.map_eq_some_iff.mp hw
  exact wpAny_getItem_heap (room_in1 (X := X) hu) (hk.is I.hok) dd hp (q _ _ (I.tok _) rw')
theorem dn_has {xs : List (NestedKey × Addr × Value)} (rel : KN kvs xs) (k : NestedKey) : (atKey xs k).isSome = (valV kvs k).isSome := by
  have q := (rel.val k).isSome_eq
  rw [Option.isSome_map] at q
  exact q.symm
theorem dn_in {Q : Value → Shared → Prop} (hu : A.units + 9 < cLine) (I : Inv X pins σ H s) (x : DN X.prog X.w H a kvs) (hk : Ky H (.ref b) k) (q : ∀ s', Inv X pins σ H s' → Q (.bool (valV kvs k).isSome) s') :
    wpAny (model X.prog X.w) A (compareOp .In (.ref b) (.ref a)) Q E s := by
  obtain ⟨z, hd, xs, rel, dd, _⟩ := DN.rd I.hok x
  exact wpAny_in_heap (room_in1 (X := X) hu) (hk.is I.hok) hd dd (by rw [dn_has rel k]; exact q _ (I.tok _))
theorem dn_notIn {Q : Value → Shared → Prop} (hu : A.units + 9 < cLine) (I : Inv X pins σ H s) (x : DN X.prog X.w H a kvs) (hk : Ky H (.ref b) k) (q : ∀ s', Inv X pins σ H s' → Q (.bool (!(valV kvs k).isSome)) s') :
    wpAny (model X.prog X.w) A (compareOp .NotIn (.ref b) (.ref a)) Q E s := by
  obtain ⟨z, hd, xs, rel, dd, _⟩ := DN.rd I.hok x
  exact wpAny_notIn_heap (room_in1 (X := X) hu) (hk.is I.hok) hd dd (by rw [dn_has rel k]; exact q _ (I.tok _))
theorem dn_setItem {Q : Unit → Shared → Prop} (hu : A.units + 9 < cLine) (I : Inv X pins σ H s) (x : DN X.prog X.w H a kvs) (hk : Ky H (.ref b) k) (hl : kvs.length < sizeLine) (rv : RelV v r)
    (q : ∀ H' s', Only H a H' → DN X.prog X.w H' a (putK kvs k v) → Inv X pins σ H' s' → Q () s') : wpAny (model X.prog X.w) A (setItem (.ref a) (.ref b) r) Q E s := by
  obtain ⟨z, hd, xs, rel, dd, ky⟩ := DN.rd I.hok x
  refine wpAny_setItem_heap (hsz := by rw [← Paired.length rel]; exact z) (room_in1 (X := X) hu) (hk.is I.hok) dd fun h' dd' hs => ?_
  obtain ⟨H', o1, o2, o3⟩ := dn_write (t' := s.toks + (nestedKind X.prog X.w).draws k) I x (by have := length_putK kvs k v; omega) (rel.put k rv) (kys_put rel ky hk) dd' hs
  exact q H' _ o1 o2 o3
theorem dn_get2 {d : V} {Q : Value → Shared → Prop} (hu : A.units + 9 < cLine) (I : Inv X pins σ H s) (x : DN X.prog X.w H a kvs) (hk : Ky H (.ref b) k) (rd : RelV d r) (q : ∀ w' s', Inv X pins σ H s' → RelV ((valV kvs k).getD d) w' → Q w' s') :
    wpAny (model X.prog X.w) A (call (.builtin "dict.get") [.ref a, .ref b, r]) Q E s := by
  obtain ⟨z, hd, xs, rel, dd, _⟩ := DN.rd I.hok x
  exact call_meetsIn PySem.F.slot_dict_get dd.typeIs PySem.F.entry_dict_get (PySem.F.args_dict_get_3 _ _ _) (meetsH_dict_get_default (nestedKind X.prog X.w) a b hd r) ⟨room_in1 (X := X) hu, k, xs, hk.is I.hok, dd, q _ _ (I.tok _) ((rel.val k).getD rd)⟩
theorem dn_setd {d : V} {Q : Value → Shared → Prop} (hu : A.units + 9 < cLine) (I : Inv X pins σ H s) (x : DN X.prog X.w H a kvs) (hk : Ky H (.ref b) k) (hl : kvs.length < sizeLine) (rd : RelV d r)
    (q1 : ∀ v, valV kvs k = some v → ∀ w' s', Inv X pins σ H s' → RelV v w' → Q w' s') (q2 : valV kvs k = none → ∀ w' H' s', Only H a H' → DN X.prog X.w H' a (putK kvs k d) → Inv X pins σ H' s' → RelV d w' → Q w' s') :
    wpAny (model X.prog X.w) A (call (.builtin "dict.setdefault") [.ref a, .ref b, r]) Q E s := by
  obtain ⟨z, hd, xs, rel, dd, ky⟩ := DN.rd I.hok x
  have hv := rel.val k
  refine call_setdefault_heap (hsz := by rw [← Paired.length rel]; exact z) (room_in1 (X := X) hu) (hk.is I.hok) hd dd (fun p hp => ?_) (fun hn h' dd' hs => ?_)
  · rw [hp] at hv
    cases e : valV kvs k with
    | none => rw [e] at hv; exact hv.elim
    | some v => rw [e] at hv; exact q1 v e _ _ (I.tok _) hv
  · rw [hn] at hv
    have e : valV kvs k = none := by
      cases e : valV kvs k with
      | none => rfl
      | some v => rw [e] at hv; exact hv.elim
    obtain ⟨H', o1, o2, o3⟩ := dn_write (t' := s.toks + (nestedKind X.prog X.w).draws k) I x (by have := length_putK kvs k d; omega) (rel.put k (b := b) rd) (kys_put rel ky hk) dd' hs
    exact q2 e _ H' _ o1 o2 o3 rd
theorem dn_pop {Q : Value → Shared → Prop} (hu : A.units + 9 < cLine) (I : Inv X pins σ H s) (x : DN X.prog X.w H a kvs) (hk : Ky H (.ref b) k) (l : valV kvs k = some v)
    (q : ∀ w' H' s', Only H a H' → DN X.prog X.w H' a (kvs.filter fun p => decide (p.1 ≠ k)) → Inv X pins σ H' s' → RelV v w' → Q w' s') : wpAny (model X.prog X.w) A (call (.builtin "dict.pop") [.ref a, .ref b]) Q E s := by
  obtain ⟨z, hd, xs, rel, dd, ky⟩ := DN.rd I.hok x
  obtain ⟨w', hw, rw'⟩ := RelO.some_of (v := v) (o := (atKey xs k).map (·.2)) (l ▸ rel.val k)
  obtain ⟨p, hp, rfl⟩ := Option.map_eq_some_iff.mp hw
  refine call_pop_heap (hsz := by rw [← Paired.length rel]; exact z) (.inl rfl) (PySem.F.args_dict_pop_2 _ _) (room_in1 (X := X) hu) (hk.is I.hok) hd dd hp fun h' dd' hs => ?_
  obtain ⟨H', o1, o2, o3⟩ := dn_write (t' := s.toks + (nestedKind X.prog X.w).draws k) I x (Nat.le_trans (List.length_filter_le _ _) z) (rel.drop k) (kys_drop rel ky) dd' hs
  exact q _ H' _ o1 o2 o3 rw'
end
end Hx
/-! the rules over dicts of nested keys -/
namespace Hx
open PySem PySem.Spec PyProof.Rows L2
theorem dn_new {P : Program} {w : World} {H : Hp} {p : Addr} : DN P w (L2.upd H p (DNo P w p [] [])) p [] := ⟨[], upd_same, .nil⟩
def IsN (P : Program) (w : World) (H : Hp) (a : Addr) : Prop := ∃ kvs, DN P w H a kvs
theorem isN_at {X : Cx} {pins : List (Addr × Obj)} {σ : L2.St} {H : Hp} {s : Shared} {a : Addr} (I : Inv X pins σ H s) (d : IsN X.prog X.w H a) :
    s.TypeIs (.ref a) "dict" ∧ (∀ b, Value.ref a = .ref b → ∃ ob, s.heap.get? b = some ob ∧ ob.dict = none) ∧ (a == sysModules) = false := by
  obtain ⟨kvs, x⟩ := d
  obtain ⟨_, hd, xs, _, dd, _⟩ := DN.rd I.hok x
  refine ⟨dd.typeIs, fun b q => ?_, hd⟩
  cases q
  obtain ⟨ob, _, _, h1, h2, _⟩ := dd
  exact ⟨ob, h1, h2.2.1⟩
theorem Ky.ref {H : Hp} {y : V} {k : NestedKey} (h : Ky H y k) : ∃ b, y = .ref b := let ⟨b, _, e, _⟩ := h; ⟨b, e⟩
/-- {}, for such keys -/
def tDNewN (P : Program) (w : World) : TE := fun _ H Q => ∀ p, H p = none → Q (.ref p) (L2.upd H p (DNo P w p [] []))
def rInN (P : Program) (w : World) : R2 := fun x y H Q => ∃ a kvs k, y = .ref a ∧ DN P w H a kvs ∧ Ky H x k ∧ Q (.bl (valV kvs k).isSome) H
def rNotInN (P : Program) (w : World) : R2 := fun x y H Q => ∃ a kvs k, y = .ref a ∧ DN P w H a kvs ∧ Ky H x k ∧ Q (.bl (!(valV kvs k).isSome)) H
def sNPut (P : Program) (w : World) (td ty tv : TE) : L2.TS := fun D σ H => tv σ H fun v H1 => td σ H1 fun x H2 => ty σ H2 fun y H3 => ∃ a kvs k, x = .ref a ∧ DN P w H3 a kvs ∧ Ky H3 y k ∧ kvs.length < sizeLine ∧ ∀ H4, Only H3 a H4 → DN P w H4 a (putK kvs k v) → D.nx σ H4
def tNGet2 (P : Program) (w : World) (td ty tx : TE) : TE := fun σ H Q => td σ H fun x H1 => ∃ a, x = .ref a ∧ IsN P w H1 a ∧ ty σ H1 fun y H2 => tx σ H2 fun z H3 => ∃ kvs k, DN P w H3 a kvs ∧ Ky H3 y k ∧ Q ((valV kvs k).getD z) H3
def tNSetd (P : Program) (w : World) (td ty tx : TE) : TE := fun σ H Q => td σ H fun x H1 => ∃ a, x = .ref a ∧ IsN P w H1 a ∧ ty σ H1 fun y H2 => tx σ H2 fun z H3 => ∃ kvs k, DN P w H3 a kvs ∧ Ky H3 y k ∧ kvs.length < sizeLine ∧
  (∀ v, valV kvs k = some v → Q v H3) ∧ (valV kvs k = none → ∀ H4, Only H3 a H4 → DN P w H4 a (putK kvs k z) → Q z H4)
def tNPop (P : Program) (w : World) (td ty : TE) : TE := fun σ H Q => td σ H fun x H1 => ∃ a, x = .ref a ∧ IsN P w H1 a ∧ ty σ H1 fun y H2 => ∃ kvs k v, DN P w H2 a kvs ∧ Ky H2 y k ∧ valV kvs k = some v ∧ ∀ H3, Only H2 a H3 → DN P w H3 a (kvs.filter fun p => decide (p.1 ≠ k)) → Q v H3
section
variable {X : Cx} {o i e f value : Expr} {pos pos' apos cpos : Pos} {td ty tx tv : TE}
theorem pe_dnewN : PE X (.Dict [] [] pos) (tDNewN X.prog X.w) := ⟨fun pins s σ H Q I h => by
  refine wpAny_Dict_empty ⟨.ref s.heap.objs.size, _, I.laid (a := s.heap.objs.size) (o := DNo X.prog X.w s.heap.objs.size [] []) (t' := s.toks) (fun _ _ q => Heap.get?_push_of_some _ q) (Nat.le_refl _) ⟨⟨Nat.zero_le _, beq_eq_false_iff_ne.mpr (Ne.symm (Nat.ne_of_lt I.big)), [], .nil, rfl, _, #[], 0, Heap.get?_push_size _ rfl, ⟨rfl, rfl, rfl⟩, rfl, rfl, List.nodup_nil⟩, ⟨_, Heap.get?_push_size _ rfl⟩, fun h1 h2 p st => ?_⟩, rfl, h _ (I.hok.fresh (Nat.le_refl _))⟩
  obtain ⟨z1, z2, xs2, k1, k2, q2, es2, ep2, m1, m2⟩ := p
  exact ⟨z1, z2, xs2, k1, k2, q2, es2, ep2, st _ m1, m2⟩⟩
theorem op_inN (hu : X.A.units + 9 < cLine) : OpR X (compareOp .In) (rInN X.prog X.w) := by
  intro pins s σ H x y v u Q I rx ry h
  obtain ⟨a, kvs, k, rfl, d, hk, q⟩ := h
  cases ry
  obtain ⟨b, rfl⟩ := hk.ref
  cases rx
  exact dn_in hu I d hk fun s' I' => ⟨.bl _, H, I', rfl, q⟩
theorem op_notInN (hu : X.A.units + 9 < cLine) : OpR X (compareOp .NotIn) (rNotInN X.prog X.w) := by
  intro pins s σ H x y v u Q I rx ry h
  obtain ⟨a, kvs, k, rfl, d, hk, q⟩ := h
  cases ry
  obtain ⟨b, rfl⟩ := hk.ref
  cases rx
  exact dn_notIn hu I d hk fun s' I' => ⟨.bl _, H, I', rfl, q⟩
theorem ps_nput (hu : X.A.units + 9 < cLine) (ho : PE X o td) (hi : PE X i ty) (hv : PE X value tv) (hs : swapsWith value (some (.Subscript o i pos')) pos.line X.env = pure false) :
    PS X (.Assign [.Subscript o i pos'] value pos) (sNPut X.prog X.w td ty tv) := ⟨fun pins s σ H D I h => by
  refine wpAny_Assign_Subscript (thn (hv.run pins s σ H _ I h) fun r s1 ⟨v, H1, I1, rv, q1⟩ => thn (ho.run pins s1 σ H1 _ I1 q1) fun u s2 ⟨x, H2, I2, rx, q2⟩ => thn (hi.run pins s2 σ H2 _ I2 q2) fun iv s3 ⟨y, H3, I3, ry, a, kvs, k, ex, d, hk, hl, q3⟩ => ?_) hs
  subst ex
  obtain ⟨b, rfl⟩ := hk.ref
  cases rx
  cases ry
  exact dn_setItem hu I3 d hk hl rv fun H4 s4 on d4 I4 => ⟨σ, H4, I4, q3 H4 on d4⟩⟩
theorem pe_nget2 (hu : X.A.units + 9 < cLine) (ho : PE X o td) (he : PE X e ty) (hf : PE X f tx) (m : M2 X o "get" apos e f cpos) : PE X (.Call (.Attribute o "get" apos) [e, f] [] cpos) (tNGet2 X.prog X.w td ty tx) := ⟨fun pins s σ H Q I h => by
  refine wpAny_Call_method m.base m.few m.line PySem.F.plainAttrs_dict PySem.F.slot_dict_get PySem.F.type_dict_get (thn (ho.run pins s σ H _ I h) fun u s1 ⟨x, H1, I1, rx, a, ex, d, q1⟩ => ?_)
  subst ex
  cases rx
  obtain ⟨t1, t2, _⟩ := isN_at I1 d
  refine ⟨t1, t2, ?_⟩
  rw [m.trees]
  refine Calls.callWith_builtin rfl (Calls.evalArgs_plain (Calls.spliced_cons (thn (he.run pins s1 σ H1 _ I1 q1) fun iv s2 ⟨y, H2, I2, ry, q2⟩ =>
    Calls.spliced_cons (thn (hf.run pins s2 σ H2 _ I2 q2) fun fv s3 ⟨z, H3, I3, rz, kvs, k, dn, hk, q3⟩ => Calls.spliced_nil ?_))))
  obtain ⟨b, rfl⟩ := hk.ref
  cases ry
  exact dn_get2 hu I3 dn hk rz fun w' s4 I4 rw' => ⟨_, H3, I4, rw', q3⟩⟩
theorem pe_nsetd (hu : X.A.units + 9 < cLine) (ho : PE X o td) (he : PE X e ty) (hf : PE X f tx) (m : M2 X o "setdefault" apos e f cpos) : PE X (.Call (.Attribute o "setdefault" apos) [e, f] [] cpos) (tNSetd X.prog X.w td ty tx) := ⟨fun pins s σ H Q I h => by
  refine wpAny_Call_method m.base m.few m.line PySem.F.plainAttrs_dict PySem.F.slot_dict_setdefault PySem.F.type_dict_setdefault (thn (ho.run pins s σ H _ I h) fun u s1 ⟨x, H1, I1, rx, a, ex, d, q1⟩ => ?_)
  subst ex
  cases rx
  obtain ⟨t1, t2, _⟩ := isN_at I1 d
  refine ⟨t1, t2, ?_⟩
  rw [m.trees]
  refine Calls.callWith_builtin rfl (Calls.evalArgs_plain (Calls.spliced_cons (thn (he.run pins s1 σ H1 _ I1 q1) fun iv s2 ⟨y, H2, I2, ry, q2⟩ =>
    Calls.spliced_cons (thn (hf.run pins s2 σ H2 _ I2 q2) fun fv s3 ⟨z, H3, I3, rz, kvs, k, dn, hk, hl, q3, q4⟩ => Calls.spliced_nil ?_))))
  obtain ⟨b, rfl⟩ := hk.ref
  cases ry
  exact dn_setd hu I3 dn hk hl rz (fun v hv w' s4 I4 rw' => ⟨v, _, I4, rw', q3 v hv⟩) fun hn w' H4 s4 on d4 I4 rw' => ⟨z, H4, I4, rw', q4 hn H4 on d4⟩⟩
theorem pe_npop (hu : X.A.units + 9 < cLine) (ho : PE X o td) (he : PE X e ty) (m : M1 X o "pop" apos e cpos) : PE X (.Call (.Attribute o "pop" apos) [e] [] cpos) (tNPop X.prog X.w td ty) := ⟨fun pins s σ H Q I h => by
  refine wpAny_Call_method m.base m.few m.line PySem.F.plainAttrs_dict PySem.F.slot_dict_pop PySem.F.type_dict_pop (thn (ho.run pins s σ H _ I h) fun u s1 ⟨x, H1, I1, rx, a, ex, d, q1⟩ => ?_)
  subst ex
  cases rx
  obtain ⟨t1, t2, _⟩ := isN_at I1 d
  refine ⟨t1, t2, ?_⟩
  rw [m.trees]
  refine Calls.callWith_builtin rfl (Calls.evalArgs_plain (Calls.spliced_cons (thn (he.run pins s1 σ H1 _ I1 q1) fun iv s2 ⟨y, H2, I2, ry, kvs, k, v, dn, hk, l, q2⟩ => Calls.spliced_nil ?_)))
  obtain ⟨b, rfl⟩ := hk.ref
  cases ry
  exact dn_pop hu I2 dn hk l fun w' H3 s3 on d3 I3 rw' => ⟨v, H3, I3, rw', q2 H3 on d3⟩⟩
end
end Hx
/-! nested tuples: order, sorted, in -/
namespace Hx
open PySem PySem.Spec PyProof.Rows L2
theorem dt_dp {K : PySem.W.Frag} {H : Hp} : ∀ (d : PyData) (v : V), keyD d = true → Dt H v d → Dp K H v d := by
  intro d
  refine PyData.rec (motive_1 := fun d => ∀ v, keyD d = true → Dt H v d → Dp K H v d) (motive_2 := fun ds => ∀ vs, keysD ds = true → DtAll H vs ds → DpAll K H vs ds) (motive_3 := fun _ => True) (motive_4 := fun _ => True) ?_ ?_ ?_ ?_ ?_ ?_ ?_ ?_ ?_ ?_ ?_ ?_ d
  · intro v _ h; cases h; exact .non
  · intro b v _ h; cases h; exact .bl b
  · intro i v _ h; cases h; exact .int i
  · intro x v _ h; cases h; exact .str x
  · intro xs ih v hk h; rw [keyD] at hk; cases hk
  · intro xs ih v hk h
    cases h with
    | tup hs ha => exact .tup (SqT.of hs) (ih _ (by rw [keyD] at hk; exact hk) ha)
  · intro kvs _ v hk h; rw [keyD] at hk; cases hk
  · intro vs _ h; cases h; exact .nil
  · intro d ds ih ihs vs hk h
    rw [keysD, Bool.and_eq_true] at hk
    cases h with
    | cons h1 h2 => exact .cons (ih _ hk.1 h1) (ihs _ hk.2 h2)
  · trivial
  · intros; trivial
  · intros; trivial
theorem dta_dpa {K : PySem.W.Frag} {H : Hp} : ∀ {ds : List PyData} {vs : List V}, keysD ds = true → DtAll H vs ds → DpAll K H vs ds
  | [], _, _, h => by cases h; exact .nil
  | d :: ds, _, hk, h => by
    rw [keysD, Bool.and_eq_true] at hk
    cases h with
    | cons h1 h2 => exact .cons (dt_dp d _ hk.1 h1) (dta_dpa hk.2 h2)
theorem keysD_iff : ∀ {ds : List PyData}, keysD ds = true ↔ ∀ d ∈ ds, keyD d = true
  | [] => by simp [keysD]
  | d :: ds => by rw [keysD, Bool.and_eq_true, keysD_iff]; simp
theorem plain_keyD : ∀ d : PyData, keyD d = true → d.plain = true := by
  intro d
  refine PyData.rec (motive_1 := fun d => keyD d = true → d.plain = true) (motive_2 := fun ds => keysD ds = true → PyData.plainAll ds = true) (motive_3 := fun _ => True) (motive_4 := fun _ => True) ?_ ?_ ?_ ?_ ?_ ?_ ?_ ?_ ?_ ?_ ?_ ?_ d
  · intro _; rfl
  · intro b _; rfl
  · intro i _; rfl
  · intro x _; rfl
  · intro xs ih hk; rw [keyD] at hk; cases hk
  · intro xs ih hk; rw [PyData.plain]; exact ih (by rw [keyD] at hk; exact hk)
  · intro kvs _ hk; rw [keyD] at hk; cases hk
  · intro _; rfl
  · intro d ds ih ihs hk
    rw [keysD, Bool.and_eq_true] at hk
    rw [PyData.plainAll, ih hk.1, ihs hk.2]; rfl
  · trivial
  · intros; trivial
  · intros; trivial
theorem plains_keyD : ∀ ds : List PyData, keysD ds = true → PyData.plainAll ds = true
  | [], _ => rfl
  | d :: ds, h => by
    rw [keysD, Bool.and_eq_true] at h
    rw [PyData.plainAll, plain_keyD d h.1, plains_keyD ds h.2]; rfl
/-- x < y -/
def rLtD : R2 := fun x y H Q => ∃ dx dy, Dt H x dx ∧ Dt H y dy ∧ keyD dx = true ∧ keyD dy = true ∧ PySem.W.alike dx dy = true ∧ dx ≠ .none ∧ dx.depth ≤ 8 ∧ Q (.bl (PySem.W.dataLt dx dy)) H
/-- x in xs: a list or a tuple of such -/
def rInD (neg : Bool) : R2 := fun x y H Q => ∃ p xs ds d, y = .ref p ∧ (H p = some (.lst xs) ∨ H p = some (.tup xs)) ∧ DtAll H xs ds ∧ keysD ds = true ∧ Dt H x d ∧ keyD d = true ∧ d.depth ≤ 8 ∧ Q (.bl (if neg then !(ds.any fun e => PyData.eqv e d) else ds.any fun e => PyData.eqv e d)) H
section
variable {X : Cx}
theorem op_ltD (hu : X.A.units + 9 < cLine) : OpR X (compareOp .Lt) rLtD := by
  intro pins s σ H x y v u Q I rx ry h
  obtain ⟨dx, dy, hx, hy, kx, ky, al, nn, hd, q⟩ := h
  obtain ⟨as, r1⟩ := Dp.reads I _ x v (dt_dp _ _ kx hx) rx
  obtain ⟨bs, r2⟩ := Dp.reads I _ y u (dt_dp _ _ ky hy) ry
  exact PySem.W.lt_data r1 r2 al nn (by have := Nat.min_le_left dx.depth dy.depth; omega) ⟨.bl _, H, I, rfl, q⟩
theorem op_inD (hu : X.A.units + 65 < cLine) : OpR X (compareOp .In) (rInD false) := by
  intro pins s σ H x y v u Q I rx ry h
  obtain ⟨p, xs, ds, d, rfl, hp, ha, ka, hx, kd, hd, q⟩ := h
  obtain ⟨as, r1⟩ := Dp.reads I _ x v (dt_dp _ _ kd hx) rx
  have hr : X.A.units + 1 + min (PyData.depthAll ds) d.depth < cLine := by
    have := Nat.min_le_right (PyData.depthAll ds) d.depth
    omega
  rcases hp with hp | hp
  · obtain ⟨bs, r2⟩ := Dp.reads I (.list ds) _ u (.lst (SqL.of hp) (dta_dpa ka ha)) ry
    exact PySem.SeqAt.in_list_data r2 r1 (plains_keyD _ ka) (plain_keyD _ kd) hr ⟨.bl _, H, I, rfl, q⟩
  · obtain ⟨bs, r2⟩ := Dp.reads I (.tuple ds) _ u (.tup (SqT.of hp) (dta_dpa ka ha)) ry
    exact PySem.SeqAt.in_tuple_data r2 r1 (plains_keyD _ ka) (plain_keyD _ kd) hr ⟨.bl _, H, I, rfl, q⟩
theorem op_notInD (hu : X.A.units + 65 < cLine) : OpR X (compareOp .NotIn) (rInD true) := by
  intro pins s σ H x y v u Q I rx ry h
  obtain ⟨p, xs, ds, d, rfl, hp, ha, ka, hx, kd, hd, q⟩ := h
  obtain ⟨as, r1⟩ := Dp.reads I _ x v (dt_dp _ _ kd hx) rx
  have hr : X.A.units + 1 + min (PyData.depthAll ds) d.depth < cLine := by
    have := Nat.min_le_right (PyData.depthAll ds) d.depth
    omega
  rcases hp with hp | hp
  · obtain ⟨bs, r2⟩ := Dp.reads I (.list ds) _ u (.lst (SqL.of hp) (dta_dpa ka ha)) ry
    exact PySem.SeqAt.notIn_list_data r2 r1 (plains_keyD _ ka) (plain_keyD _ kd) hr ⟨.bl _, H, I, rfl, q⟩
  · obtain ⟨bs, r2⟩ := Dp.reads I (.tuple ds) _ u (.tup (SqT.of hp) (dta_dpa ka ha)) ry
    exact PySem.SeqAt.notIn_tuple_data r2 r1 (plains_keyD _ ka) (plain_keyD _ kd) hr ⟨.bl _, H, I, rfl, q⟩
/-- sorted(x), x a list of such -/
def rSortD : List V → Hp → VK → Prop := fun vs H Q => ∃ (a : Addr) (xs : List V) (ds : List PyData) (G : Hp), vs = [V.ref a] ∧ H a = some (.lst xs) ∧ Ex G H ∧ DtAll G xs ds ∧ keysD ds = true ∧ PySem.W.AllAlike ds ∧ PySem.W.Sortable ds ∧ (∀ d ∈ ds, d.depth ≤ 8) ∧
  ∀ p ys, H p = none → DtAll G ys (ds.mergeSort (PySem.W.dataLe false id)) → ys.length = xs.length → Q (.ref p) (L2.upd H p (.lst ys))
theorem each_dt {H : Hp} : ∀ {ds : List PyData} {vs : List V} {us : List Value}, DtAll H vs ds → Vals vs us → PySem.W.EachIs (fun u d => ∃ x, RelV x u ∧ Dt H x d) us ds
  | [], _, _, h, r => by cases h; cases r; exact .nil
  | d :: ds, _, _, h, r => by
    cases h with
    | cons h1 h2 => cases r with
      | cons r1 r2 => exact .cons ⟨_, r1, h1⟩ (each_dt h2 r2)
theorem each_rd {H : Hp} {s : Shared} {pins : List (Addr × Obj)} {σ : L2.St} (I : Inv X pins σ H s) : ∀ {ds : List PyData} {vs : List V} {us : List Value}, keysD ds = true → DtAll H vs ds → Vals vs us → PySem.W.EachIs (fun u d => ∃ as, Reads s.heap u d as) us ds
  | [], _, _, _, h, r => by cases h; cases r; exact .nil
  | d :: ds, _, _, hk, h, r => by
    rw [keysD, Bool.and_eq_true] at hk
    cases h with
    | cons h1 h2 => cases r with
      | cons r1 r2 => exact .cons (Dp.reads I _ _ _ (dt_dp (K := X.K) _ _ hk.1 h1) r1) (each_rd I hk.2 h2 r2)
theorem back_dt {H : Hp} : ∀ {ds : List PyData} {us : List Value}, PySem.W.EachIs (fun u d => ∃ x, RelV x u ∧ Dt H x d) us ds → ∃ vs, Vals vs us ∧ DtAll H vs ds
  | _, _, .nil => ⟨[], .nil, .nil⟩
  | _, _, .cons ⟨x, r, h⟩ t => by
    obtain ⟨vs, r2, h2⟩ := back_dt t
    exact ⟨x :: vs, .cons r r2, .cons h h2⟩
theorem sortD (hu : X.A.units + 65 < cLine) : CallR X (.builtin "sorted") rSortD := by
  intro pins s σ H vs us Q I r h
  obtain ⟨a, xs, ds, G, rfl, ha, eG, hx, hk, al, so, hd, q⟩ := h
  rw [Vals.ref1 r]
  obtain ⟨its, rv, hl, hz⟩ := I.list (SqL.of ha)
  have hxl := dta_len hx
  refine PySem.W.sorted_data (enc := id) (R := fun u d => ∃ x, RelV x u ∧ Dt G x d) hl.isList (each_dt hx rv) (each_rd I hk (ex_dta eG hx) rv) (by rw [List.map_id]; exact al) (by rw [List.map_id]; exact so) (by omega) (fun d h => by have := hd d h; show X.A.units + 2 + d.depth < cLine; omega) fun out ho e => ?_
  obtain ⟨ys, ry, hy⟩ := back_dt e
  obtain ⟨ep, he'⟩ := PyProof.Rows.sortedAll_at s.heap its out.toArray
  have hyl := ry.length
  have hp : H (s.heap.objs.size + 1) = none := I.hok.fresh (Nat.le_succ _)
  exact ⟨.ref _, L2.upd H (s.heap.objs.size + 1) (.lst ys), I.laid (t' := s.toks) (fun _ _ => PyProof.Rows.sortedAll_old) (Nat.le_succ _) ⟨by omega, out, ep, ry, he'⟩, rfl, q _ ys hp hy (by omega)⟩
end
end Hx
namespace Hx
open PySem PySem.Spec PyProof.Rows L2
theorem hu9 {A : Around} {k : Nat} (hr : Room k A) : A.units + 9 < cLine := by have := hr.un; omega
theorem szl (m : Nat) (h : m ≤ 1000000) : m ≤ sizeLine := Nat.le_of_lt (sz m h)
section
variable {X : Cx} {K : PySem.W.Frag}
theorem pgetL (h : X.K = K := by rfl) : PGet X (fun x y H Q => ∃ p xs n v, x = .ref p ∧ y = .int ((n : Nat) : Int) ∧ SqL K H p xs ∧ xs[n]? = some v ∧ Q v H) := by
  subst h
  intro pins s σ H o i ov iv Q I ro ri q
  obtain ⟨p, xs, n, v, rfl, rfl, hq, he, q⟩ := q
  cases ro
  obtain ⟨t, rfl⟩ := ri
  obtain ⟨its, r, pl, hz⟩ := I.list hq
  obtain ⟨w, ew, rw'⟩ := r.get he
  have hl := r.length
  have hn := line63
  have hlt := (List.getElem?_eq_some_iff.mp he).1
  exact wpAny_getItem_list pl.isList (by omega) (by omega) (by simpa using ew) ⟨v, H, I, rw', q⟩
theorem slA (h : X.K = K := by rfl) : SlR X (rSlA K) := by subst h; exact sl_tupA
theorem catA (h : X.K = K := by rfl) : OpR X (binaryOp .Add) (rCatA K) := by subst h; exact op_catA
end
end Hx
/-! rules for the law's own defs -/
namespace Hx
open PySem PySem.Spec PyProof.Rows L2
section
variable {X : Cx}
theorem tb_dp {K : PySem.W.Frag} {H : Hp} {v : V} {e : Bd} (h : Tb H v e) : Dp K H v (encB e) := by
  obtain ⟨r, rfl, h⟩ := h
  exact .tup (SqT.of h) (.cons (.str _) (.cons (.str _) (.cons (.int _) .nil)))
theorem tbs_dp {K : PySem.W.Frag} {H : Hp} : ∀ {xs : List V} {es : List Bd}, Paired (Tb H) xs es → DpAll K H xs (es.map encB)
  | _, _, .nil => .nil
  | _, _, .cons h t => .cons (tb_dp h) (tbs_dp t)
theorem eqv_B (a b : Bd) : PyData.eqv (encB a) (encB b) = decide (b = a) := by
  rw [Bool.eq_iff_iff, decide_eq_true_iff]
  obtain ⟨x, y, k⟩ := a
  obtain ⟨x', y', k'⟩ := b
  simp [PyData.eqv, PyData.eqvAll, encB]
  constructor
  · rintro ⟨rfl, rfl, rfl⟩; simp
  · rintro ⟨rfl, rfl, rfl⟩; simp
theorem any_B (es : List Bd) (e : Bd) : ((es.map encB).any fun z => PyData.eqv z (encB e)) = decide (e ∈ es) := by
  induction es with
  | nil => rfl
  | cons a es ih =>
    rw [List.map_cons, List.any_cons, ih, eqv_B, Bool.eq_iff_iff]
    simp [List.mem_cons]
theorem lay_B (e : Bd) : (encB e).plain = true := by simp [encB, PyData.plain, PyData.plainAll]
theorem lays_B : ∀ es : List Bd, PyData.plainAll (es.map encB) = true
  | [] => rfl
  | e :: es => by
    have h1 := lay_B e
    have h2 := lays_B es
    simp only [List.map_cons, PyData.plainAll, h1, h2, Bool.and_self]
theorem dep_B (e : Bd) : (encB e).depth ≤ 1 := by simp [encB, PyData.depth, PyData.depthAll]
/-- a bound in a list or a tuple of bounds -/
def rInB (neg : Bool) : R2 := fun x y H Q => ∃ p xs es e, y = .ref p ∧ (H p = some (.lst xs) ∨ H p = some (.tup xs)) ∧ Paired (Tb H) xs es ∧ Tb H x e ∧ Q (.bl (if neg then !decide (e ∈ es) else decide (e ∈ es))) H
theorem op_inB (hu : X.A.units + 65 < cLine) : OpR X (compareOp .In) (rInB false) := by
  intro pins s σ H x y v u Q I rx ry h
  obtain ⟨p, xs, es, e, rfl, hp, pr, hx, q⟩ := h
  obtain ⟨as, r1⟩ := Dp.reads I _ x v (tb_dp hx) rx
  have hd := dep_B e
  have hr : X.A.units + 1 + min (PyData.depthAll (es.map encB)) (encB e).depth < cLine := by
    have := Nat.min_le_right (PyData.depthAll (es.map encB)) (encB e).depth
    omega
  rcases hp with hp | hp
  · obtain ⟨bs, r2⟩ := Dp.reads I (.list (es.map encB)) _ u (.lst (SqL.of hp) (tbs_dp pr)) ry
    exact PySem.SeqAt.in_list_data r2 r1 (lays_B es) (lay_B e) hr (by rw [any_B]; exact ⟨.bl _, H, I, rfl, q⟩)
  · obtain ⟨bs, r2⟩ := Dp.reads I (.tuple (es.map encB)) _ u (.tup (SqT.of hp) (tbs_dp pr)) ry
    exact PySem.SeqAt.in_tuple_data r2 r1 (lays_B es) (lay_B e) hr (by rw [any_B]; exact ⟨.bl _, H, I, rfl, q⟩)
theorem op_notinB (hu : X.A.units + 65 < cLine) : OpR X (compareOp .NotIn) (rInB true) := by
  intro pins s σ H x y v u Q I rx ry h
  obtain ⟨p, xs, es, e, rfl, hp, pr, hx, q⟩ := h
  obtain ⟨as, r1⟩ := Dp.reads I _ x v (tb_dp hx) rx
  have hd := dep_B e
  have hr : X.A.units + 1 + min (PyData.depthAll (es.map encB)) (encB e).depth < cLine := by
    have := Nat.min_le_right (PyData.depthAll (es.map encB)) (encB e).depth
    omega
  rcases hp with hp | hp
  · obtain ⟨bs, r2⟩ := Dp.reads I (.list (es.map encB)) _ u (.lst (SqL.of hp) (tbs_dp pr)) ry
    exact PySem.SeqAt.notIn_list_data r2 r1 (lays_B es) (lay_B e) hr (by rw [any_B]; exact ⟨.bl _, H, I, rfl, q⟩)
  · obtain ⟨bs, r2⟩ := Dp.reads I (.tuple (es.map encB)) _ u (.tup (SqT.of hp) (tbs_dp pr)) ry
    exact PySem.SeqAt.notIn_tuple_data r2 r1 (lays_B es) (lay_B e) hr (by rw [any_B]; exact ⟨.bl _, H, I, rfl, q⟩)
/-- sorted(x), x a list of texts -/
def rSortL : List V → Hp → VK → Prop := fun vs H Q => ∃ (a : Addr) (ks : List Str), vs = [V.ref a] ∧ H a = some (.lst (ks.map V.str)) ∧ ∀ p, H p = none → Q (.ref p) (upd H p (.lst ((ks.mergeSort leS).map V.str)))
theorem sortL (hu : X.A.units + 64 < cLine) : CallR X (.builtin "sorted") rSortL := by
  intro pq s σ H vs us Q Iv r h
  obtain ⟨a, ks, rfl, ha, q⟩ := h
  rw [Vals.ref1 r]
  obtain ⟨its, rv, hl, hz⟩ := Iv.list (SqL.of ha)
  have hil : its.length = ks.length := by have := rv.length; rw [List.length_map] at this; exact this.symm
  rw [List.length_map] at hz
  refine sorted_by Iv hu (fun zs => zs = ks) (fun R hR => ?_) (fun zs p e hp => by rw [e]; exact q p hp)
  refine collect_list hl.isList ?_ (by omega)
  refine hR _ its ks rfl (fun b o e => ?_) ?_ rfl rfl rv hz
  · have hlt := Heap.lt_size e
    exact (Heap.get?_update_ne _ _ _ _ (Nat.ne_of_lt hlt)).trans (Heap.get?_push_of_some _ e)
  · show s.heap.objs.size ≤ _
    simp [Heap.size_update, Heap.size_push]
theorem pgUnl {K : PySem.W.Frag} {es : List Expr} {k : Nat} {t : TGs} {n : Nat} {pos : Pos} (hc : X.calm = true) (h : PGs X es t) (hn : (assignEach es X.env).length = n := by rfl) (hst : (assignEach es X.env).findIdx? (·.1) = none := by rfl) (hk : X.K = K := by rfl) : PG X (.Tuple es k pos) (gUnl K n t) := by
  subst hk; exact pg_unl hc h hn hst
/-- xs[::-1] -/
def rBack (K : PySem.W.Frag) : V → Option Int → Hp → VK → Prop := fun x k H Q => ∃ a xs, x = .ref a ∧ SqL K H a xs ∧ k = some (-1) ∧ ∀ p, H p = none → Q (.ref p) (upd H p (.lst xs.reverse))
theorem pe_back {e st : Expr} {te : TE} {ts : TO} {p2 pos : Pos} (he : PE X e te) (hs : PO X (some st) ts) (hst : ∀ l sl : Value, subscripted (.Slice none none (some st) p2) false l sl = operate [l, sl] (getItem l sl) := by intro _ _; with_unfolding_all rfl) : PE X (.Subscript e (.Slice none none (some st) p2) pos) (fun σ H Q => te σ H fun x H1 => ts σ H1 fun k H2 => rBack X.K x k H2 Q) := by
  refine ⟨fun pins s σ H Q I h => ?_⟩
  refine Subscript_ (thn (he.run pins s σ H _ I h) fun v s1 ⟨x, H1, I1, r1, q1⟩ => ?_)
  refine wpAny_Slice ?_
  rw [evalPart_none]
  refine wpAny_pure (wpAny_pure ?_)
  refine thn (hs.run pins s1 σ H1 _ I1 q1) fun vk s3 ⟨k, H3, I3, pk, q3⟩ => ?_
  have I4 : Inv X pins σ H3 { s3 with heap := s3.heap.push { cls := .type "slice", data := .fields #[.none, .none, vk] } } := I3.kept (t' := s3.toks) fun b ob q => Heap.get?_push_of_some _ q
  obtain ⟨a, xs, rfl, hx, rfl, q⟩ := q3
  cases r1
  obtain ⟨its, r, ht, hz⟩ := I4.list hx
  have hlen := r.length
  refine tail_any (ops := [.ref a, .ref s3.heap.objs.size]) ht.isList.typeIs slot_list_getitem.lookup ?_ (hst _ _)
  refine wpAny_getItem_list_slice ht.isList (Heap.IsSliceOf.new ..) .none .none pk (by decide) ?_ (by rw [List.size_toArray] <;> omega)
  rw [PySem.W.krv_pick]
  refine ⟨.ref _, _, I4.laid (t' := s3.toks) (o := .lst xs.reverse) (fun b ob q => Heap.get?_push_of_some _ q) (Nat.le_refl _) ?_, rfl, q _ (I4.hok.fresh (Nat.le_refl _))⟩
  exact ⟨by rw [List.length_reverse]; exact hz, _, 0, r.reverse, Heap.get?_push_size _ rfl⟩
end
end Hx
namespace Hd
open PySem PySem.Spec PyProof.Rows L2
def top (i : Nat) : Stmt := PySem.Challenge.pw_holdtogether_k21_what_goes_along.main.body.getD i (.Pass ⟨0, 0, 0, 0⟩)
def mkD (x : Str) (i : Nat) : He.DefD := ⟨(x, none), x, x, defArgs (top i), defBody (top i), defScope (top i), [], []⟩
def mkM (c m q : Str) (i j : Nat) : He.DefD := ⟨(c, some m), m, q, defArgs (inClass (top i) j), defBody (inClass (top i) j), defScope (inClass (top i) j), [], []⟩
/-- an own class over ValueError, as the layer asks -/
def oexB (K : PySem.W.Frag) (C : Addr) : Bool := (match K.lookup C with
  | some ⟨.type ty, dd, .cls cd, sl⟩ => decide (ty = "type") && (decide (cd.mro.head? = some (.ref C)) && (PySem.HandSPX.refsVE cd.mro.tail && (cd.hasDict && (!cd.hasDel && (decide (sl.size = 6) && decide (sl[4]? = some (some (.builtin "ValueError.__new__"))))))))
  | _ => false) && (He.eqO (PySem.W.findIn K (.ref C) "__setattr__") (some (some (.builtin "object.__setattr__"))) && (decide (PySem.W.subIn K (.ref C) (.type "BaseException") = some true) && (decide (PySem.W.typeIn K (.ref C) = some (.type "type")) && PySem.W.keepIn K (.ref C))))
def kitB1 (K : PySem.W.Frag) (C : Addr) (q : Value × Bool) : Bool := decide (PySem.W.kitOne K (.ref C) q.1 = some q.2)
def excsB (K : PySem.W.Frag) (C : Addr) : Bool := He.eqO (PySem.W.findIn K (.ref C) "__getattribute__") (some (some (.builtin "BaseException.__getattribute__"))) && (He.eqO (PySem.W.findIn K (.ref C) "__getattr__") (some none) && (PySem.W.hasDictIn K C && (He.eqO (PySem.W.findIn K (.ref C) "__class__") (some (some (.builtin "object.__class__"))) && (He.eqO (PySem.W.specialIn K (.builtin "object.__class__") "__get__") (some (some (.builtin "getset_descriptor.__get__"))) && (decide (PySem.W.takesIn K (.builtin "object.__class__") = some true) && decide (PySem.W.mroIn K C (.type "object") = some true))))))
/-- an own class: made plainly, its attributes no class attributes, its methods -/
def clsB (K : PySem.W.Frag) (C : Addr) (fs ms : List Str) : Bool := (PySem.W.plainGet K C Str.empty && (PySem.W.hasDictIn K C && (PySem.W.plainOver K C && (He.eqO (PySem.W.findIn K (.ref C) "__setattr__") (some (some (.builtin "object.__setattr__"))) && (PySem.W.makesIn K C && PySem.W.keepIn K (.ref C)))))) &&
  (fs.all (fun f => decide (PySem.W.findIn K (.ref C) f = some none)) && ms.all (fun m => decide (PySem.W.findIn K (.ref C) m = some (some (.ref (He.ma K C m)))) && (PySem.W.isFn K (.ref (He.ma K C m)) && PySem.W.keepIn K (.ref (He.ma K C m)))))
def fn : List He.DefD := [mkD "_wall" 0, mkD "is_step" 17, mkD "is_atom" 18, mkD "is_literal_form" 19, mkD "denied" 20, mkD "is_row" 21, mkD "are_literals" 22, mkD "check_rows" 23, mkD "check_size" 24, mkD "check_literals" 25, mkD "goes_along" 28, mkD "forced" 29, mkD "_law_stream" 31, mkD "_law_next" 32, mkD "_law_pick" 33, mkD "_law_from" 34, mkD "_law_shuffled" 35, mkD "_law_same" 36, mkD "_law_copy" 37, mkD "_law_named" 38, mkD "_law_attributes" 39, mkD "_law_error" 40, mkD "_law_denied" 41, mkD "_law_deed" 42, mkD "_law_atom" 43, mkD "_law_atoms" 44, mkD "_law_clause" 45, mkD "_law_clauses" 46, mkD "_law_some" 47, mkD "_law_bad_literal" 48, mkD "_law_bad_row" 49, mkD "_law_bad_rows" 50, mkD "_law_bad_literals" 51, mkD "_law_great" 52, mkD "_law_ask" 53, mkD "_law_steps" 54, mkD "_law_chain" 55, mkD "_law_chains" 56, mkD "_law_refusals" 57, mkD "law" 58, mkM "BadLine" "__init__" "BadLine.__init__" 5 0, mkM "BadValue" "__init__" "BadValue.__init__" 8 0, mkM "TooMany" "__init__" "TooMany.__init__" 10 0, mkM "Trail" "__init__" "Trail.__init__" 27 0, mkM "Trail" "enter" "Trail.enter" 27 1, mkM "Trail" "sort_in" "Trail.sort_in" 27 2, mkM "Trail" "turn" "Trail.turn" 27 3, mkM "Trail" "stand" "Trail.stand" 27 4, mkM "Trail" "is_open" "Trail.is_open" 27 7, mkM "Trail" "spare" "Trail.spare" 27 8]
def fa : List He.Fa := [.glo "_wall", .glo "is_step", .glo "is_atom", .glo "is_literal_form", .glo "denied", .glo "is_row", .glo "are_literals", .glo "check_rows", .glo "check_size", .glo "check_literals", .glo "goes_along", .glo "forced", .glo "_law_stream", .glo "_law_next", .glo "_law_pick", .glo "_law_from", .glo "_law_shuffled", .glo "_law_same", .glo "_law_copy", .glo "_law_named", .glo "_law_attributes", .glo "_law_error", .glo "_law_denied", .glo "_law_deed", .glo "_law_atom", .glo "_law_atoms", .glo "_law_clause", .glo "_law_clauses", .glo "_law_some", .glo "_law_bad_literal", .glo "_law_bad_row", .glo "_law_bad_rows", .glo "_law_bad_literals", .glo "_law_great", .glo "_law_ask", .glo "_law_steps", .glo "_law_chain", .glo "_law_chains", .glo "_law_refusals", .glo "law", .glo "HoldError", .glo "BadText", .glo "BadSort", .glo "BadLine", .glo "BadModel", .glo "BadPlan", .glo "BadValue", .glo "BadEdit", .glo "TooMany", .glo "TooLong", .glo "NothingToUndo", .glo "NothingToRedo", .glo "Trail", .free "isinstance", .free "len", .free "all", .free "sorted", .free "range", .free "list", .free "tuple", .free "int", .free "abs", .free "str", .free "bool", .free "dict", .free "min", .free "max", .free "sum", .free "reversed", .free "ValueError", .int "MOST_ROWS" 400, .int "MOST_LITERALS" 2000]
def kl_BadValue (K : PySem.W.Frag) : List (Value × Bool) := [(.ref (He.ga K "HoldError"), true), (.ref (He.ga K "BadText"), false), (.ref (He.ga K "BadSort"), false), (.ref (He.ga K "BadLine"), false), (.ref (He.ga K "BadModel"), false), (.ref (He.ga K "BadPlan"), false), (.ref (He.ga K "BadValue"), true), (.ref (He.ga K "BadEdit"), false), (.ref (He.ga K "TooMany"), false), (.ref (He.ga K "TooLong"), false), (.ref (He.ga K "NothingToUndo"), false), (.ref (He.ga K "NothingToRedo"), false), (.ref (He.ga K "Trail"), false), (.type "ValueError", true)]
def kl_BadLine (K : PySem.W.Frag) : List (Value × Bool) := [(.ref (He.ga K "HoldError"), true), (.ref (He.ga K "BadText"), false), (.ref (He.ga K "BadSort"), false), (.ref (He.ga K "BadLine"), true), (.ref (He.ga K "BadModel"), false), (.ref (He.ga K "BadPlan"), false), (.ref (He.ga K "BadValue"), false), (.ref (He.ga K "BadEdit"), false), (.ref (He.ga K "TooMany"), false), (.ref (He.ga K "TooLong"), false), (.ref (He.ga K "NothingToUndo"), false), (.ref (He.ga K "NothingToRedo"), false), (.ref (He.ga K "Trail"), false), (.type "ValueError", true)]
def kl_TooMany (K : PySem.W.Frag) : List (Value × Bool) := [(.ref (He.ga K "HoldError"), true), (.ref (He.ga K "BadText"), false), (.ref (He.ga K "BadSort"), false), (.ref (He.ga K "BadLine"), false), (.ref (He.ga K "BadModel"), false), (.ref (He.ga K "BadPlan"), false), (.ref (He.ga K "BadValue"), false), (.ref (He.ga K "BadEdit"), false), (.ref (He.ga K "TooMany"), true), (.ref (He.ga K "TooLong"), false), (.ref (He.ga K "NothingToUndo"), false), (.ref (He.ga K "NothingToRedo"), false), (.ref (He.ga K "Trail"), false), (.type "ValueError", true)]
def ex (K : PySem.W.Frag) : Bool := (oexB K (He.ga K "BadValue") && (excsB K (He.ga K "BadValue") && (decide (PySem.W.findIn K (.ref (He.ga K "BadValue")) "__init__" = some (some (.ref (He.ma K (He.ga K "BadValue") "__init__")))) && (decide (PySem.W.typeIn K (.ref (He.ma K (He.ga K "BadValue") "__init__")) = some (.type "function")) && (decide (PySem.W.exmOne K (.ref (He.ga K "BadValue")) (.ref (He.ga K "HoldError")) = some true) && ((["name"] : List Str).all (fun f => decide (PySem.W.findIn K (.ref (He.ga K "BadValue")) f = some none)) && (kl_BadValue K).all (kitB1 K (He.ga K "BadValue")))))))) && (oexB K (He.ga K "BadLine") && (excsB K (He.ga K "BadLine") && (decide (PySem.W.findIn K (.ref (He.ga K "BadLine")) "__init__" = some (some (.ref (He.ma K (He.ga K "BadLine") "__init__")))) && (decide (PySem.W.typeIn K (.ref (He.ma K (He.ga K "BadLine") "__init__")) = some (.type "function")) && (decide (PySem.W.exmOne K (.ref (He.ga K "BadLine")) (.ref (He.ga K "HoldError")) = some true) && ((["index", "word"] : List Str).all (fun f => decide (PySem.W.findIn K (.ref (He.ga K "BadLine")) f = some none)) && (kl_BadLine K).all (kitB1 K (He.ga K "BadLine")))))))) && (oexB K (He.ga K "TooMany") && (excsB K (He.ga K "TooMany") && (decide (PySem.W.findIn K (.ref (He.ga K "TooMany")) "__init__" = some (some (.ref (He.ma K (He.ga K "TooMany") "__init__")))) && (decide (PySem.W.typeIn K (.ref (He.ma K (He.ga K "TooMany") "__init__")) = some (.type "function")) && (decide (PySem.W.exmOne K (.ref (He.ga K "TooMany")) (.ref (He.ga K "HoldError")) = some true) && ((["word"] : List Str).all (fun f => decide (PySem.W.findIn K (.ref (He.ga K "TooMany")) f = some none)) && (kl_TooMany K).all (kitB1 K (He.ga K "TooMany")))))))) && clsB K (He.ga K "Trail") ["rows", "known", "atoms", "holders", "entries", "heights", "height", "met", "left", "broken", "going"] ["__init__", "enter", "sort_in", "turn", "stand", "is_open", "spare"]
/-- what the top has written -/
structure ExF (K : PySem.W.Frag) (C fI : Addr) : Prop where
  oex : OexC K C
  ini : PySem.W.findIn K (.ref C) "__init__" = some (some (.ref fI))
  tyI : PySem.W.typeIn K (.ref fI) = some (.type "function")
  excC : ExcC K C
  exm : PySem.W.exmOne K (.ref C) (.ref (He.ga K "HoldError")) = some true
structure Txt (K : PySem.W.Frag) (mg : Str → Option Value) : Prop where
  n_isinstance : mg "isinstance" = none
  n_len : mg "len" = none
  n_all : mg "all" = none
  n_sorted : mg "sorted" = none
  n_range : mg "range" = none
  n_list : mg "list" = none
  n_tuple : mg "tuple" = none
  n_int : mg "int" = none
  n_abs : mg "abs" = none
  n_str : mg "str" = none
  n_bool : mg "bool" = none
  n_dict : mg "dict" = none
  n_min : mg "min" = none
  n_max : mg "max" = none
  n_sum : mg "sum" = none
  n_reversed : mg "reversed" = none
  n_ValueError : mg "ValueError" = none
  g__wall : mg "_wall" = some (.ref (He.ga K "_wall"))
  g_is_step : mg "is_step" = some (.ref (He.ga K "is_step"))
  g_is_atom : mg "is_atom" = some (.ref (He.ga K "is_atom"))
  g_is_literal_form : mg "is_literal_form" = some (.ref (He.ga K "is_literal_form"))
  g_denied : mg "denied" = some (.ref (He.ga K "denied"))
  g_is_row : mg "is_row" = some (.ref (He.ga K "is_row"))
  g_are_literals : mg "are_literals" = some (.ref (He.ga K "are_literals"))
  g_check_rows : mg "check_rows" = some (.ref (He.ga K "check_rows"))
  g_check_size : mg "check_size" = some (.ref (He.ga K "check_size"))
  g_check_literals : mg "check_literals" = some (.ref (He.ga K "check_literals"))
  g_goes_along : mg "goes_along" = some (.ref (He.ga K "goes_along"))
  g_forced : mg "forced" = some (.ref (He.ga K "forced"))
  g__law_stream : mg "_law_stream" = some (.ref (He.ga K "_law_stream"))
  g__law_next : mg "_law_next" = some (.ref (He.ga K "_law_next"))
  g__law_pick : mg "_law_pick" = some (.ref (He.ga K "_law_pick"))
  g__law_from : mg "_law_from" = some (.ref (He.ga K "_law_from"))
  g__law_shuffled : mg "_law_shuffled" = some (.ref (He.ga K "_law_shuffled"))
  g__law_same : mg "_law_same" = some (.ref (He.ga K "_law_same"))
  g__law_copy : mg "_law_copy" = some (.ref (He.ga K "_law_copy"))
  g__law_named : mg "_law_named" = some (.ref (He.ga K "_law_named"))
  g__law_attributes : mg "_law_attributes" = some (.ref (He.ga K "_law_attributes"))
  g__law_error : mg "_law_error" = some (.ref (He.ga K "_law_error"))
  g__law_denied : mg "_law_denied" = some (.ref (He.ga K "_law_denied"))
  g__law_deed : mg "_law_deed" = some (.ref (He.ga K "_law_deed"))
  g__law_atom : mg "_law_atom" = some (.ref (He.ga K "_law_atom"))
  g__law_atoms : mg "_law_atoms" = some (.ref (He.ga K "_law_atoms"))
  g__law_clause : mg "_law_clause" = some (.ref (He.ga K "_law_clause"))
  g__law_clauses : mg "_law_clauses" = some (.ref (He.ga K "_law_clauses"))
  g__law_some : mg "_law_some" = some (.ref (He.ga K "_law_some"))
  g__law_bad_literal : mg "_law_bad_literal" = some (.ref (He.ga K "_law_bad_literal"))
  g__law_bad_row : mg "_law_bad_row" = some (.ref (He.ga K "_law_bad_row"))
  g__law_bad_rows : mg "_law_bad_rows" = some (.ref (He.ga K "_law_bad_rows"))
  g__law_bad_literals : mg "_law_bad_literals" = some (.ref (He.ga K "_law_bad_literals"))
  g__law_great : mg "_law_great" = some (.ref (He.ga K "_law_great"))
  g__law_ask : mg "_law_ask" = some (.ref (He.ga K "_law_ask"))
  g__law_steps : mg "_law_steps" = some (.ref (He.ga K "_law_steps"))
  g__law_chain : mg "_law_chain" = some (.ref (He.ga K "_law_chain"))
  g__law_chains : mg "_law_chains" = some (.ref (He.ga K "_law_chains"))
  g__law_refusals : mg "_law_refusals" = some (.ref (He.ga K "_law_refusals"))
  g_law : mg "law" = some (.ref (He.ga K "law"))
  g_HoldError : mg "HoldError" = some (.ref (He.ga K "HoldError"))
  g_BadText : mg "BadText" = some (.ref (He.ga K "BadText"))
  g_BadSort : mg "BadSort" = some (.ref (He.ga K "BadSort"))
  g_BadLine : mg "BadLine" = some (.ref (He.ga K "BadLine"))
  g_BadModel : mg "BadModel" = some (.ref (He.ga K "BadModel"))
  g_BadPlan : mg "BadPlan" = some (.ref (He.ga K "BadPlan"))
  g_BadValue : mg "BadValue" = some (.ref (He.ga K "BadValue"))
  g_BadEdit : mg "BadEdit" = some (.ref (He.ga K "BadEdit"))
  g_TooMany : mg "TooMany" = some (.ref (He.ga K "TooMany"))
  g_TooLong : mg "TooLong" = some (.ref (He.ga K "TooLong"))
  g_NothingToUndo : mg "NothingToUndo" = some (.ref (He.ga K "NothingToUndo"))
  g_NothingToRedo : mg "NothingToRedo" = some (.ref (He.ga K "NothingToRedo"))
  g_Trail : mg "Trail" = some (.ref (He.ga K "Trail"))
  c_MOST_ROWS : ∃ t, mg "MOST_ROWS" = some (.int 400 t)
  c_MOST_LITERALS : ∃ t, mg "MOST_LITERALS" = some (.int 2000 t)
  d__wall : ∃ fd, FunD K "_wall" "_wall" (defArgs (top 0)) (defBody (top 0)) (defScope (top 0)) [] [] (He.ga K "_wall") fd
  d_is_step : ∃ fd, FunD K "is_step" "is_step" (defArgs (top 17)) (defBody (top 17)) (defScope (top 17)) [] [] (He.ga K "is_step") fd
  d_is_atom : ∃ fd, FunD K "is_atom" "is_atom" (defArgs (top 18)) (defBody (top 18)) (defScope (top 18)) [] [] (He.ga K "is_atom") fd
  d_is_literal_form : ∃ fd, FunD K "is_literal_form" "is_literal_form" (defArgs (top 19)) (defBody (top 19)) (defScope (top 19)) [] [] (He.ga K "is_literal_form") fd
  d_denied : ∃ fd, FunD K "denied" "denied" (defArgs (top 20)) (defBody (top 20)) (defScope (top 20)) [] [] (He.ga K "denied") fd
  d_is_row : ∃ fd, FunD K "is_row" "is_row" (defArgs (top 21)) (defBody (top 21)) (defScope (top 21)) [] [] (He.ga K "is_row") fd
  d_are_literals : ∃ fd, FunD K "are_literals" "are_literals" (defArgs (top 22)) (defBody (top 22)) (defScope (top 22)) [] [] (He.ga K "are_literals") fd
  d_check_rows : ∃ fd, FunD K "check_rows" "check_rows" (defArgs (top 23)) (defBody (top 23)) (defScope (top 23)) [] [] (He.ga K "check_rows") fd
  d_check_size : ∃ fd, FunD K "check_size" "check_size" (defArgs (top 24)) (defBody (top 24)) (defScope (top 24)) [] [] (He.ga K "check_size") fd
  d_check_literals : ∃ fd, FunD K "check_literals" "check_literals" (defArgs (top 25)) (defBody (top 25)) (defScope (top 25)) [] [] (He.ga K "check_literals") fd
  d_goes_along : ∃ fd, FunD K "goes_along" "goes_along" (defArgs (top 28)) (defBody (top 28)) (defScope (top 28)) [] [] (He.ga K "goes_along") fd
  d_forced : ∃ fd, FunD K "forced" "forced" (defArgs (top 29)) (defBody (top 29)) (defScope (top 29)) [] [] (He.ga K "forced") fd
  d__law_stream : ∃ fd, FunD K "_law_stream" "_law_stream" (defArgs (top 31)) (defBody (top 31)) (defScope (top 31)) [] [] (He.ga K "_law_stream") fd
  d__law_next : ∃ fd, FunD K "_law_next" "_law_next" (defArgs (top 32)) (defBody (top 32)) (defScope (top 32)) [] [] (He.ga K "_law_next") fd
  d__law_pick : ∃ fd, FunD K "_law_pick" "_law_pick" (defArgs (top 33)) (defBody (top 33)) (defScope (top 33)) [] [] (He.ga K "_law_pick") fd
  d__law_from : ∃ fd, FunD K "_law_from" "_law_from" (defArgs (top 34)) (defBody (top 34)) (defScope (top 34)) [] [] (He.ga K "_law_from") fd
  d__law_shuffled : ∃ fd, FunD K "_law_shuffled" "_law_shuffled" (defArgs (top 35)) (defBody (top 35)) (defScope (top 35)) [] [] (He.ga K "_law_shuffled") fd
  d__law_same : ∃ fd, FunD K "_law_same" "_law_same" (defArgs (top 36)) (defBody (top 36)) (defScope (top 36)) [] [] (He.ga K "_law_same") fd
  d__law_copy : ∃ fd, FunD K "_law_copy" "_law_copy" (defArgs (top 37)) (defBody (top 37)) (defScope (top 37)) [] [] (He.ga K "_law_copy") fd
  d__law_named : ∃ fd, FunD K "_law_named" "_law_named" (defArgs (top 38)) (defBody (top 38)) (defScope (top 38)) [] [] (He.ga K "_law_named") fd
  d__law_attributes : ∃ fd, FunD K "_law_attributes" "_law_attributes" (defArgs (top 39)) (defBody (top 39)) (defScope (top 39)) [] [] (He.ga K "_law_attributes") fd
  d__law_error : ∃ fd, FunD K "_law_error" "_law_error" (defArgs (top 40)) (defBody (top 40)) (defScope (top 40)) [] [] (He.ga K "_law_error") fd
  d__law_denied : ∃ fd, FunD K "_law_denied" "_law_denied" (defArgs (top 41)) (defBody (top 41)) (defScope (top 41)) [] [] (He.ga K "_law_denied") fd
  d__law_deed : ∃ fd, FunD K "_law_deed" "_law_deed" (defArgs (top 42)) (defBody (top 42)) (defScope (top 42)) [] [] (He.ga K "_law_deed") fd
  d__law_atom : ∃ fd, FunD K "_law_atom" "_law_atom" (defArgs (top 43)) (defBody (top 43)) (defScope (top 43)) [] [] (He.ga K "_law_atom") fd
  d__law_atoms : ∃ fd, FunD K "_law_atoms" "_law_atoms" (defArgs (top 44)) (defBody (top 44)) (defScope (top 44)) [] [] (He.ga K "_law_atoms") fd
  d__law_clause : ∃ fd, FunD K "_law_clause" "_law_clause" (defArgs (top 45)) (defBody (top 45)) (defScope (top 45)) [] [] (He.ga K "_law_clause") fd
  d__law_clauses : ∃ fd, FunD K "_law_clauses" "_law_clauses" (defArgs (top 46)) (defBody (top 46)) (defScope (top 46)) [] [] (He.ga K "_law_clauses") fd
  d__law_some : ∃ fd, FunD K "_law_some" "_law_some" (defArgs (top 47)) (defBody (top 47)) (defScope (top 47)) [] [] (He.ga K "_law_some") fd
  d__law_bad_literal : ∃ fd, FunD K "_law_bad_literal" "_law_bad_literal" (defArgs (top 48)) (defBody (top 48)) (defScope (top 48)) [] [] (He.ga K "_law_bad_literal") fd
  d__law_bad_row : ∃ fd, FunD K "_law_bad_row" "_law_bad_row" (defArgs (top 49)) (defBody (top 49)) (defScope (top 49)) [] [] (He.ga K "_law_bad_row") fd
  d__law_bad_rows : ∃ fd, FunD K "_law_bad_rows" "_law_bad_rows" (defArgs (top 50)) (defBody (top 50)) (defScope (top 50)) [] [] (He.ga K "_law_bad_rows") fd
  d__law_bad_literals : ∃ fd, FunD K "_law_bad_literals" "_law_bad_literals" (defArgs (top 51)) (defBody (top 51)) (defScope (top 51)) [] [] (He.ga K "_law_bad_literals") fd
  d__law_great : ∃ fd, FunD K "_law_great" "_law_great" (defArgs (top 52)) (defBody (top 52)) (defScope (top 52)) [] [] (He.ga K "_law_great") fd
  d__law_ask : ∃ fd, FunD K "_law_ask" "_law_ask" (defArgs (top 53)) (defBody (top 53)) (defScope (top 53)) [] [] (He.ga K "_law_ask") fd
  d__law_steps : ∃ fd, FunD K "_law_steps" "_law_steps" (defArgs (top 54)) (defBody (top 54)) (defScope (top 54)) [] [] (He.ga K "_law_steps") fd
  d__law_chain : ∃ fd, FunD K "_law_chain" "_law_chain" (defArgs (top 55)) (defBody (top 55)) (defScope (top 55)) [] [] (He.ga K "_law_chain") fd
  d__law_chains : ∃ fd, FunD K "_law_chains" "_law_chains" (defArgs (top 56)) (defBody (top 56)) (defScope (top 56)) [] [] (He.ga K "_law_chains") fd
  d__law_refusals : ∃ fd, FunD K "_law_refusals" "_law_refusals" (defArgs (top 57)) (defBody (top 57)) (defScope (top 57)) [] [] (He.ga K "_law_refusals") fd
  d_law : ∃ fd, FunD K "law" "law" (defArgs (top 58)) (defBody (top 58)) (defScope (top 58)) [] [] (He.ga K "law") fd
  i_BadLine : ∃ fd, FunD K "__init__" "BadLine.__init__" (defArgs (inClass (top 5) 0)) (defBody (inClass (top 5) 0)) (defScope (inClass (top 5) 0)) [] [] (He.ma K (He.ga K "BadLine") "__init__") fd
  x_BadLine : ExF K (He.ga K "BadLine") (He.ma K (He.ga K "BadLine") "__init__")
  f_BadLine : ∀ f ∈ (["index", "word"] : List Str), PySem.W.findIn K (.ref (He.ga K "BadLine")) f = some none
  q_BadLine : ∀ q ∈ kl_BadLine K, PySem.W.kitOne K (.ref (He.ga K "BadLine")) q.1 = some q.2
  i_BadValue : ∃ fd, FunD K "__init__" "BadValue.__init__" (defArgs (inClass (top 8) 0)) (defBody (inClass (top 8) 0)) (defScope (inClass (top 8) 0)) [] [] (He.ma K (He.ga K "BadValue") "__init__") fd
  x_BadValue : ExF K (He.ga K "BadValue") (He.ma K (He.ga K "BadValue") "__init__")
  f_BadValue : ∀ f ∈ (["name"] : List Str), PySem.W.findIn K (.ref (He.ga K "BadValue")) f = some none
  q_BadValue : ∀ q ∈ kl_BadValue K, PySem.W.kitOne K (.ref (He.ga K "BadValue")) q.1 = some q.2
  i_TooMany : ∃ fd, FunD K "__init__" "TooMany.__init__" (defArgs (inClass (top 10) 0)) (defBody (inClass (top 10) 0)) (defScope (inClass (top 10) 0)) [] [] (He.ma K (He.ga K "TooMany") "__init__") fd
  x_TooMany : ExF K (He.ga K "TooMany") (He.ma K (He.ga K "TooMany") "__init__")
  f_TooMany : ∀ f ∈ (["word"] : List Str), PySem.W.findIn K (.ref (He.ga K "TooMany")) f = some none
  q_TooMany : ∀ q ∈ kl_TooMany K, PySem.W.kitOne K (.ref (He.ga K "TooMany")) q.1 = some q.2
  k_Trail : Cls K (He.ga K "Trail")
  m_Trail : Mk K (He.ga K "Trail") (He.ma K (He.ga K "Trail") "__init__")
  a_Trail_rows : NoAttr K (He.ga K "Trail") "rows"
  a_Trail_known : NoAttr K (He.ga K "Trail") "known"
  a_Trail_atoms : NoAttr K (He.ga K "Trail") "atoms"
  a_Trail_holders : NoAttr K (He.ga K "Trail") "holders"
  a_Trail_entries : NoAttr K (He.ga K "Trail") "entries"
  a_Trail_heights : NoAttr K (He.ga K "Trail") "heights"
  a_Trail_height : NoAttr K (He.ga K "Trail") "height"
  a_Trail_met : NoAttr K (He.ga K "Trail") "met"
  a_Trail_left : NoAttr K (He.ga K "Trail") "left"
  a_Trail_broken : NoAttr K (He.ga K "Trail") "broken"
  a_Trail_going : NoAttr K (He.ga K "Trail") "going"
  e_Trail___init__ : Meth K (He.ga K "Trail") "__init__" (He.ma K (He.ga K "Trail") "__init__")
  d_Trail___init__ : ∃ fd, FunD K "__init__" "Trail.__init__" (defArgs (inClass (top 27) 0)) (defBody (inClass (top 27) 0)) (defScope (inClass (top 27) 0)) [] [] (He.ma K (He.ga K "Trail") "__init__") fd
  e_Trail_enter : Meth K (He.ga K "Trail") "enter" (He.ma K (He.ga K "Trail") "enter")
  d_Trail_enter : ∃ fd, FunD K "enter" "Trail.enter" (defArgs (inClass (top 27) 1)) (defBody (inClass (top 27) 1)) (defScope (inClass (top 27) 1)) [] [] (He.ma K (He.ga K "Trail") "enter") fd
  e_Trail_sort_in : Meth K (He.ga K "Trail") "sort_in" (He.ma K (He.ga K "Trail") "sort_in")
  d_Trail_sort_in : ∃ fd, FunD K "sort_in" "Trail.sort_in" (defArgs (inClass (top 27) 2)) (defBody (inClass (top 27) 2)) (defScope (inClass (top 27) 2)) [] [] (He.ma K (He.ga K "Trail") "sort_in") fd
  e_Trail_turn : Meth K (He.ga K "Trail") "turn" (He.ma K (He.ga K "Trail") "turn")
  d_Trail_turn : ∃ fd, FunD K "turn" "Trail.turn" (defArgs (inClass (top 27) 3)) (defBody (inClass (top 27) 3)) (defScope (inClass (top 27) 3)) [] [] (He.ma K (He.ga K "Trail") "turn") fd
  e_Trail_stand : Meth K (He.ga K "Trail") "stand" (He.ma K (He.ga K "Trail") "stand")
  d_Trail_stand : ∃ fd, FunD K "stand" "Trail.stand" (defArgs (inClass (top 27) 4)) (defBody (inClass (top 27) 4)) (defScope (inClass (top 27) 4)) [] [] (He.ma K (He.ga K "Trail") "stand") fd
  e_Trail_is_open : Meth K (He.ga K "Trail") "is_open" (He.ma K (He.ga K "Trail") "is_open")
  d_Trail_is_open : ∃ fd, FunD K "is_open" "Trail.is_open" (defArgs (inClass (top 27) 7)) (defBody (inClass (top 27) 7)) (defScope (inClass (top 27) 7)) [] [] (He.ma K (He.ga K "Trail") "is_open") fd
  e_Trail_spare : Meth K (He.ga K "Trail") "spare" (He.ma K (He.ga K "Trail") "spare")
  d_Trail_spare : ∃ fd, FunD K "spare" "Trail.spare" (defArgs (inClass (top 27) 8)) (defBody (inClass (top 27) 8)) (defScope (inClass (top 27) 8)) [] [] (He.ma K (He.ga K "Trail") "spare") fd
def lo0 : List Str := ["_wall", "is_step", "is_atom", "is_literal_form", "denied", "is_row", "are_literals", "check_rows", "check_size", "check_literals", "goes_along", "forced", "_law_stream", "_law_next", "_law_pick", "_law_from", "_law_shuffled", "_law_same", "_law_copy", "_law_named", "_law_attributes", "_law_error", "_law_denied", "_law_deed", "_law_atom", "_law_atoms", "_law_clause", "_law_clauses", "_law_some", "_law_bad_literal"]
def lo1 : List Str := ["_law_bad_row", "_law_bad_rows", "_law_bad_literals", "_law_great", "_law_ask", "_law_steps", "_law_chain", "_law_chains", "_law_refusals", "HoldError", "BadText", "BadSort", "BadLine", "BadModel", "BadPlan", "BadValue", "BadEdit", "TooMany", "TooLong", "NothingToUndo", "NothingToRedo", "Trail", "MOST_ROWS", "MOST_LITERALS"]
def loose : List Str := lo0 ++ lo1
abbrev R : PySem.W.OpenRow := PySem.W.OpenLaw.row PySem.Challenge.rw_holdtogether_k21_what_goes_along
abbrev hk : PySem.W.Hook := He.hookX 5 fa fn [] [] ex
def ob (s : PySem.W.SharedT) : He.AlX := He.obsX 5 fa fn [] [] ex (HandSHeadRun.getT s)
theorem ob_eq (s : PySem.W.SharedT) : ob s = hk.obs s.abs := He.obsX_eq (HandSHeadRun.getT_eq s)
theorem run (w : World) : HandSHeadRun.RunEq R (PySem.W.view R.prog [58]) hk ob 7000 loose w := by
  intro os
  kernel_rfl
theorem oexB_ok {K : PySem.W.Frag} {C : Addr} (h : oexB K C = true) : OexC K C := by
  unfold oexB at h
  obtain ⟨h1, h⟩ := He.ba h
  obtain ⟨h2, h⟩ := He.ba h
  obtain ⟨h3, h⟩ := He.ba h
  obtain ⟨h4, h5⟩ := He.ba h
  refine ⟨?_, He.eqO_ok h2, of_decide_eq_true h3, of_decide_eq_true h4, h5⟩
  cases q : K.lookup C with
  | none => rw [q] at h1; cases h1
  | some o =>
    rw [q] at h1
    obtain ⟨oc, od, dt, sl⟩ := o
    cases oc with
    | type ty =>
      cases dt with
      | cls cd =>
        obtain ⟨a1, b⟩ := He.ba h1
        obtain ⟨a2, b⟩ := He.ba b
        obtain ⟨a3, b⟩ := He.ba b
        obtain ⟨a4, b⟩ := He.ba b
        obtain ⟨a5, b⟩ := He.ba b
        obtain ⟨a6, a7⟩ := He.ba b
        have e1 : ty = "type" := of_decide_eq_true a1
        have e2 := of_decide_eq_true a2
        have e6 := of_decide_eq_true a6
        have e7 := of_decide_eq_true a7
        obtain ⟨nm, bs, mro, ns, qn, hd, sn, sb, ab, col, del⟩ := cd
        dsimp only at e2 a3 a4 a5
        obtain ⟨bm, rfl⟩ : ∃ bm, mro = .ref C :: bm := by
          cases mro with
          | nil => cases e2
          | cons m r => exact ⟨r, by rw [Option.some.inj e2]⟩
        have hdl : del = false := by
          cases del with
          | false => rfl
          | true => cases a5
        have hds : hd = true := a4
        subst e1 hdl hds
        have hsl : sl = #[sl[0]'(by omega), sl[1]'(by omega), sl[2]'(by omega), sl[3]'(by omega), some (.builtin "ValueError.__new__"), sl[5]'(by omega)] := by
          apply Array.ext
          · simp [e6]
          · intro i hi hi2
            have hi6 : i < 6 := by omega
            rcases (by omega : i = 0 ∨ i = 1 ∨ i = 2 ∨ i = 3 ∨ i = 4 ∨ i = 5) with rfl | rfl | rfl | rfl | rfl | rfl
            · rfl
            · rfl
            · rfl
            · rfl
            · have z := e7
              rw [Array.getElem?_eq_getElem (by omega)] at z
              simpa using z
            · rfl
        exact ⟨nm, qn, ns, bs, bm, sn, sb, ab, col, od, _, _, _, _, _, by rw [hsl], a3⟩
      | _ => cases h1
    | _ => cases h1
theorem excsB_ok {K : PySem.W.Frag} {C : Addr} (h : excsB K C = true) (hs : PySem.W.subIn K (.ref C) (.type "BaseException") = some true) : ExcC K C := by
  unfold excsB at h
  obtain ⟨h1, h⟩ := He.ba h
  obtain ⟨h2, h⟩ := He.ba h
  obtain ⟨h3, h⟩ := He.ba h
  obtain ⟨h4, h⟩ := He.ba h
  obtain ⟨h5, h⟩ := He.ba h
  obtain ⟨h6, h7⟩ := He.ba h
  exact ⟨He.eqO_ok h1, He.eqO_ok h2, hs, h3, He.eqO_ok h4, He.eqO_ok h5, of_decide_eq_true h6, of_decide_eq_true h7⟩
theorem txt_of {w : World} {K : PySem.W.Frag} {h : Heap} {mg : Str → Option Value} (X : K.In h) (G : h.Ns mainGlobals mg) (c : He.SaysX fa fn [] [] ex w h K) : Txt K mg := by
  have cd := c.t.d
  have cm : ex K = true := c.more
  unfold ex at cm
  obtain ⟨cm, w0⟩ := He.ba cm
  obtain ⟨cm, p2⟩ := He.ba cm
  obtain ⟨cm, p1⟩ := He.ba cm
  have p0 := cm
  obtain ⟨a01, p0⟩ := He.ba p0
  obtain ⟨a02, p0⟩ := He.ba p0
  obtain ⟨a03, p0⟩ := He.ba p0
  obtain ⟨a04, p0⟩ := He.ba p0
  obtain ⟨a05, p0⟩ := He.ba p0
  obtain ⟨a06, a08⟩ := He.ba p0
  have o0 := oexB_ok a01
  obtain ⟨a11, p1⟩ := He.ba p1
  obtain ⟨a12, p1⟩ := He.ba p1
  obtain ⟨a13, p1⟩ := He.ba p1
  obtain ⟨a14, p1⟩ := He.ba p1
  obtain ⟨a15, p1⟩ := He.ba p1
  obtain ⟨a16, a18⟩ := He.ba p1
  have o1 := oexB_ok a11
  obtain ⟨a21, p2⟩ := He.ba p2
  obtain ⟨a22, p2⟩ := He.ba p2
  obtain ⟨a23, p2⟩ := He.ba p2
  obtain ⟨a24, p2⟩ := He.ba p2
  obtain ⟨a25, p2⟩ := He.ba p2
  obtain ⟨a26, a28⟩ := He.ba p2
  have o2 := oexB_ok a21
  obtain ⟨w00, w0⟩ := He.ba w0
  obtain ⟨w01, w02⟩ := He.ba w0
  obtain ⟨u01, w00⟩ := He.ba w00
  obtain ⟨u02, w00⟩ := He.ba w00
  obtain ⟨u03, w00⟩ := He.ba w00
  obtain ⟨u04, w00⟩ := He.ba w00
  obtain ⟨u05, u06⟩ := He.ba w00
  have wf0 := fun f hf => of_decide_eq_true (List.all_eq_true.mp w01 f hf)
  have wm0 : ∀ m ∈ (["__init__", "enter", "sort_in", "turn", "stand", "is_open", "spare"] : List Str), PySem.W.findIn K (.ref (He.ga K "Trail")) m = some (some (.ref (He.ma K (He.ga K "Trail") m))) ∧ PySem.W.isFn K (.ref (He.ma K (He.ga K "Trail") m)) = true ∧ PySem.W.keepIn K (.ref (He.ma K (He.ga K "Trail") m)) = true := fun m hm => by
    obtain ⟨z1, z⟩ := He.ba (List.all_eq_true.mp w02 m hm)
    obtain ⟨z2, z3⟩ := He.ba z
    exact ⟨of_decide_eq_true z1, z2, z3⟩
  exact {
    n_isinstance := He.free_ok X G (cd.fact 53 (f := .free "isinstance") rfl)
    n_len := He.free_ok X G (cd.fact 54 (f := .free "len") rfl)
    n_all := He.free_ok X G (cd.fact 55 (f := .free "all") rfl)
    n_sorted := He.free_ok X G (cd.fact 56 (f := .free "sorted") rfl)
    n_range := He.free_ok X G (cd.fact 57 (f := .free "range") rfl)
    n_list := He.free_ok X G (cd.fact 58 (f := .free "list") rfl)
    n_tuple := He.free_ok X G (cd.fact 59 (f := .free "tuple") rfl)
    n_int := He.free_ok X G (cd.fact 60 (f := .free "int") rfl)
    n_abs := He.free_ok X G (cd.fact 61 (f := .free "abs") rfl)
    n_str := He.free_ok X G (cd.fact 62 (f := .free "str") rfl)
    n_bool := He.free_ok X G (cd.fact 63 (f := .free "bool") rfl)
    n_dict := He.free_ok X G (cd.fact 64 (f := .free "dict") rfl)
    n_min := He.free_ok X G (cd.fact 65 (f := .free "min") rfl)
    n_max := He.free_ok X G (cd.fact 66 (f := .free "max") rfl)
    n_sum := He.free_ok X G (cd.fact 67 (f := .free "sum") rfl)
    n_reversed := He.free_ok X G (cd.fact 68 (f := .free "reversed") rfl)
    n_ValueError := He.free_ok X G (cd.fact 69 (f := .free "ValueError") rfl)
    g__wall := He.glo_ok X G (cd.fact 0 (f := .glo "_wall") rfl)
    g_is_step := He.glo_ok X G (cd.fact 1 (f := .glo "is_step") rfl)
    g_is_atom := He.glo_ok X G (cd.fact 2 (f := .glo "is_atom") rfl)
    g_is_literal_form := He.glo_ok X G (cd.fact 3 (f := .glo "is_literal_form") rfl)
    g_denied := He.glo_ok X G (cd.fact 4 (f := .glo "denied") rfl)
    g_is_row := He.glo_ok X G (cd.fact 5 (f := .glo "is_row") rfl)
    g_are_literals := He.glo_ok X G (cd.fact 6 (f := .glo "are_literals") rfl)
    g_check_rows := He.glo_ok X G (cd.fact 7 (f := .glo "check_rows") rfl)
    g_check_size := He.glo_ok X G (cd.fact 8 (f := .glo "check_size") rfl)
    g_check_literals := He.glo_ok X G (cd.fact 9 (f := .glo "check_literals") rfl)
    g_goes_along := He.glo_ok X G (cd.fact 10 (f := .glo "goes_along") rfl)
    g_forced := He.glo_ok X G (cd.fact 11 (f := .glo "forced") rfl)
    g__law_stream := He.glo_ok X G (cd.fact 12 (f := .glo "_law_stream") rfl)
    g__law_next := He.glo_ok X G (cd.fact 13 (f := .glo "_law_next") rfl)
    g__law_pick := He.glo_ok X G (cd.fact 14 (f := .glo "_law_pick") rfl)
    g__law_from := He.glo_ok X G (cd.fact 15 (f := .glo "_law_from") rfl)
    g__law_shuffled := He.glo_ok X G (cd.fact 16 (f := .glo "_law_shuffled") rfl)
    g__law_same := He.glo_ok X G (cd.fact 17 (f := .glo "_law_same") rfl)
    g__law_copy := He.glo_ok X G (cd.fact 18 (f := .glo "_law_copy") rfl)
    g__law_named := He.glo_ok X G (cd.fact 19 (f := .glo "_law_named") rfl)
    g__law_attributes := He.glo_ok X G (cd.fact 20 (f := .glo "_law_attributes") rfl)
    g__law_error := He.glo_ok X G (cd.fact 21 (f := .glo "_law_error") rfl)
    g__law_denied := He.glo_ok X G (cd.fact 22 (f := .glo "_law_denied") rfl)
    g__law_deed := He.glo_ok X G (cd.fact 23 (f := .glo "_law_deed") rfl)
    g__law_atom := He.glo_ok X G (cd.fact 24 (f := .glo "_law_atom") rfl)
    g__law_atoms := He.glo_ok X G (cd.fact 25 (f := .glo "_law_atoms") rfl)
    g__law_clause := He.glo_ok X G (cd.fact 26 (f := .glo "_law_clause") rfl)
    g__law_clauses := He.glo_ok X G (cd.fact 27 (f := .glo "_law_clauses") rfl)
    g__law_some := He.glo_ok X G (cd.fact 28 (f := .glo "_law_some") rfl)
    g__law_bad_literal := He.glo_ok X G (cd.fact 29 (f := .glo "_law_bad_literal") rfl)
    g__law_bad_row := He.glo_ok X G (cd.fact 30 (f := .glo "_law_bad_row") rfl)
    g__law_bad_rows := He.glo_ok X G (cd.fact 31 (f := .glo "_law_bad_rows") rfl)
    g__law_bad_literals := He.glo_ok X G (cd.fact 32 (f := .glo "_law_bad_literals") rfl)
    g__law_great := He.glo_ok X G (cd.fact 33 (f := .glo "_law_great") rfl)
    g__law_ask := He.glo_ok X G (cd.fact 34 (f := .glo "_law_ask") rfl)
    g__law_steps := He.glo_ok X G (cd.fact 35 (f := .glo "_law_steps") rfl)
    g__law_chain := He.glo_ok X G (cd.fact 36 (f := .glo "_law_chain") rfl)
    g__law_chains := He.glo_ok X G (cd.fact 37 (f := .glo "_law_chains") rfl)
    g__law_refusals := He.glo_ok X G (cd.fact 38 (f := .glo "_law_refusals") rfl)
    g_law := He.glo_ok X G (cd.fact 39 (f := .glo "law") rfl)
    g_HoldError := He.glo_ok X G (cd.fact 40 (f := .glo "HoldError") rfl)
    g_BadText := He.glo_ok X G (cd.fact 41 (f := .glo "BadText") rfl)
    g_BadSort := He.glo_ok X G (cd.fact 42 (f := .glo "BadSort") rfl)
    g_BadLine := He.glo_ok X G (cd.fact 43 (f := .glo "BadLine") rfl)
    g_BadModel := He.glo_ok X G (cd.fact 44 (f := .glo "BadModel") rfl)
    g_BadPlan := He.glo_ok X G (cd.fact 45 (f := .glo "BadPlan") rfl)
    g_BadValue := He.glo_ok X G (cd.fact 46 (f := .glo "BadValue") rfl)
    g_BadEdit := He.glo_ok X G (cd.fact 47 (f := .glo "BadEdit") rfl)
    g_TooMany := He.glo_ok X G (cd.fact 48 (f := .glo "TooMany") rfl)
    g_TooLong := He.glo_ok X G (cd.fact 49 (f := .glo "TooLong") rfl)
    g_NothingToUndo := He.glo_ok X G (cd.fact 50 (f := .glo "NothingToUndo") rfl)
    g_NothingToRedo := He.glo_ok X G (cd.fact 51 (f := .glo "NothingToRedo") rfl)
    g_Trail := He.glo_ok X G (cd.fact 52 (f := .glo "Trail") rfl)
    c_MOST_ROWS := He.int_ok X G (cd.fact 70 (f := .int "MOST_ROWS" 400) rfl)
    c_MOST_LITERALS := He.int_ok X G (cd.fact 71 (f := .int "MOST_LITERALS" 2000) rfl)
    d__wall := cd.def_ 0 (d := mkD "_wall" 0) rfl
    d_is_step := cd.def_ 1 (d := mkD "is_step" 17) rfl
    d_is_atom := cd.def_ 2 (d := mkD "is_atom" 18) rfl
    d_is_literal_form := cd.def_ 3 (d := mkD "is_literal_form" 19) rfl
    d_denied := cd.def_ 4 (d := mkD "denied" 20) rfl
    d_is_row := cd.def_ 5 (d := mkD "is_row" 21) rfl
    d_are_literals := cd.def_ 6 (d := mkD "are_literals" 22) rfl
    d_check_rows := cd.def_ 7 (d := mkD "check_rows" 23) rfl
    d_check_size := cd.def_ 8 (d := mkD "check_size" 24) rfl
    d_check_literals := cd.def_ 9 (d := mkD "check_literals" 25) rfl
    d_goes_along := cd.def_ 10 (d := mkD "goes_along" 28) rfl
    d_forced := cd.def_ 11 (d := mkD "forced" 29) rfl
    d__law_stream := cd.def_ 12 (d := mkD "_law_stream" 31) rfl
    d__law_next := cd.def_ 13 (d := mkD "_law_next" 32) rfl
    d__law_pick := cd.def_ 14 (d := mkD "_law_pick" 33) rfl
    d__law_from := cd.def_ 15 (d := mkD "_law_from" 34) rfl
    d__law_shuffled := cd.def_ 16 (d := mkD "_law_shuffled" 35) rfl
    d__law_same := cd.def_ 17 (d := mkD "_law_same" 36) rfl
    d__law_copy := cd.def_ 18 (d := mkD "_law_copy" 37) rfl
    d__law_named := cd.def_ 19 (d := mkD "_law_named" 38) rfl
    d__law_attributes := cd.def_ 20 (d := mkD "_law_attributes" 39) rfl
    d__law_error := cd.def_ 21 (d := mkD "_law_error" 40) rfl
    d__law_denied := cd.def_ 22 (d := mkD "_law_denied" 41) rfl
    d__law_deed := cd.def_ 23 (d := mkD "_law_deed" 42) rfl
    d__law_atom := cd.def_ 24 (d := mkD "_law_atom" 43) rfl
    d__law_atoms := cd.def_ 25 (d := mkD "_law_atoms" 44) rfl
    d__law_clause := cd.def_ 26 (d := mkD "_law_clause" 45) rfl
    d__law_clauses := cd.def_ 27 (d := mkD "_law_clauses" 46) rfl
    d__law_some := cd.def_ 28 (d := mkD "_law_some" 47) rfl
    d__law_bad_literal := cd.def_ 29 (d := mkD "_law_bad_literal" 48) rfl
    d__law_bad_row := cd.def_ 30 (d := mkD "_law_bad_row" 49) rfl
    d__law_bad_rows := cd.def_ 31 (d := mkD "_law_bad_rows" 50) rfl
    d__law_bad_literals := cd.def_ 32 (d := mkD "_law_bad_literals" 51) rfl
    d__law_great := cd.def_ 33 (d := mkD "_law_great" 52) rfl
    d__law_ask := cd.def_ 34 (d := mkD "_law_ask" 53) rfl
    d__law_steps := cd.def_ 35 (d := mkD "_law_steps" 54) rfl
    d__law_chain := cd.def_ 36 (d := mkD "_law_chain" 55) rfl
    d__law_chains := cd.def_ 37 (d := mkD "_law_chains" 56) rfl
    d__law_refusals := cd.def_ 38 (d := mkD "_law_refusals" 57) rfl
    d_law := cd.def_ 39 (d := mkD "law" 58) rfl
    i_BadLine := cd.def_ 40 (d := mkM "BadLine" "__init__" "BadLine.__init__" 5 0) rfl
    x_BadLine := ⟨o1, of_decide_eq_true a13, of_decide_eq_true a14, excsB_ok a12 o1.exC, of_decide_eq_true a15⟩
    f_BadLine := fun f hf => of_decide_eq_true (List.all_eq_true.mp a16 f hf)
    q_BadLine := fun q hq => of_decide_eq_true (List.all_eq_true.mp a18 q hq)
    i_BadValue := cd.def_ 41 (d := mkM "BadValue" "__init__" "BadValue.__init__" 8 0) rfl
    x_BadValue := ⟨o0, of_decide_eq_true a03, of_decide_eq_true a04, excsB_ok a02 o0.exC, of_decide_eq_true a05⟩
    f_BadValue := fun f hf => of_decide_eq_true (List.all_eq_true.mp a06 f hf)
    q_BadValue := fun q hq => of_decide_eq_true (List.all_eq_true.mp a08 q hq)
    i_TooMany := cd.def_ 42 (d := mkM "TooMany" "__init__" "TooMany.__init__" 10 0) rfl
    x_TooMany := ⟨o2, of_decide_eq_true a23, of_decide_eq_true a24, excsB_ok a22 o2.exC, of_decide_eq_true a25⟩
    f_TooMany := fun f hf => of_decide_eq_true (List.all_eq_true.mp a26 f hf)
    q_TooMany := fun q hq => of_decide_eq_true (List.all_eq_true.mp a28 q hq)
    e_Trail___init__ := let z := wm0 "__init__" (.head _); ⟨z.1, z.2.1, z.2.2⟩
    d_Trail___init__ := cd.def_ 43 (d := mkM "Trail" "__init__" "Trail.__init__" 27 0) rfl
    e_Trail_enter := let z := wm0 "enter" (.tail _ (.head _)); ⟨z.1, z.2.1, z.2.2⟩
    d_Trail_enter := cd.def_ 44 (d := mkM "Trail" "enter" "Trail.enter" 27 1) rfl
    e_Trail_sort_in := let z := wm0 "sort_in" (.tail _ (.tail _ (.head _))); ⟨z.1, z.2.1, z.2.2⟩
    d_Trail_sort_in := cd.def_ 45 (d := mkM "Trail" "sort_in" "Trail.sort_in" 27 2) rfl
    e_Trail_turn := let z := wm0 "turn" (.tail _ (.tail _ (.tail _ (.head _)))); ⟨z.1, z.2.1, z.2.2⟩
    d_Trail_turn := cd.def_ 46 (d := mkM "Trail" "turn" "Trail.turn" 27 3) rfl
    e_Trail_stand := let z := wm0 "stand" (.tail _ (.tail _ (.tail _ (.tail _ (.head _))))); ⟨z.1, z.2.1, z.2.2⟩
    d_Trail_stand := cd.def_ 47 (d := mkM "Trail" "stand" "Trail.stand" 27 4) rfl
    e_Trail_is_open := let z := wm0 "is_open" (.tail _ (.tail _ (.tail _ (.tail _ (.tail _ (.head _)))))); ⟨z.1, z.2.1, z.2.2⟩
    d_Trail_is_open := cd.def_ 48 (d := mkM "Trail" "is_open" "Trail.is_open" 27 7) rfl
    e_Trail_spare := let z := wm0 "spare" (.tail _ (.tail _ (.tail _ (.tail _ (.tail _ (.tail _ (.head _))))))); ⟨z.1, z.2.1, z.2.2⟩
    d_Trail_spare := cd.def_ 49 (d := mkM "Trail" "spare" "Trail.spare" 27 8) rfl
    k_Trail := ⟨u01, u02, u03, He.eqO_ok u04⟩
    m_Trail := ⟨u05, (wm0 "__init__" (.head _)).1, (wm0 "__init__" (.head _)).2.1, u06⟩
    a_Trail_rows := wf0 "rows" (.head _)
    a_Trail_known := wf0 "known" (.tail _ (.head _))
    a_Trail_atoms := wf0 "atoms" (.tail _ (.tail _ (.head _)))
    a_Trail_holders := wf0 "holders" (.tail _ (.tail _ (.tail _ (.head _))))
    a_Trail_entries := wf0 "entries" (.tail _ (.tail _ (.tail _ (.tail _ (.head _)))))
    a_Trail_heights := wf0 "heights" (.tail _ (.tail _ (.tail _ (.tail _ (.tail _ (.head _))))))
    a_Trail_height := wf0 "height" (.tail _ (.tail _ (.tail _ (.tail _ (.tail _ (.tail _ (.head _)))))))
    a_Trail_met := wf0 "met" (.tail _ (.tail _ (.tail _ (.tail _ (.tail _ (.tail _ (.tail _ (.head _))))))))
    a_Trail_left := wf0 "left" (.tail _ (.tail _ (.tail _ (.tail _ (.tail _ (.tail _ (.tail _ (.tail _ (.head _)))))))))
    a_Trail_broken := wf0 "broken" (.tail _ (.tail _ (.tail _ (.tail _ (.tail _ (.tail _ (.tail _ (.tail _ (.tail _ (.head _))))))))))
    a_Trail_going := wf0 "going" (.tail _ (.tail _ (.tail _ (.tail _ (.tail _ (.tail _ (.tail _ (.tail _ (.tail _ (.tail _ (.head _)))))))))))
  }
end Hd
/-! literals, rows: plainly -/
namespace M21
open PySem PySem.Spec PyProof.Rows Hx
def stepD (d : PyData) : Bool := match d with | .int n => decide (n < 0) | _ => false
def kindD (ds : List PyData) : Str := match ds with | .str k :: _ => k | _ => Str.empty
def leD (a b : PyData) : Bool := match a, b with | .str x, .str y => !decide (y.cps.toList < x.cps.toList) | _, _ => false
def atomK (ds : List PyData) : Bool :=
  if kindD ds = Str.ofString "truth" ∨ kindD ds = Str.ofString "inner" then decide (ds.length = 2)
  else if kindD ds = Str.ofString "equal" then decide (ds.length = 3) && leD (ds.getD 1 .none) (ds.getD 2 .none)
  else if kindD ds = Str.ofString "less" then decide (ds.length = 3)
  else decide (kindD ds = Str.ofString "bound") && (decide (ds.length = 4) && stepD (ds.getD 3 .none))
def atomD (d : PyData) : Bool := match d with
  | .tuple ds => decide (2 ≤ ds.length) && ((ds.take 3).all (isT "str") && atomK ds)
  | _ => false
def litD (d : PyData) : Bool := match d with
  | .tuple [a, b] => isT "bool" b && atomD a
  | _ => false
def ascD : List PyData → Bool
  | a :: b :: r => PySem.W.dataLt a b && ascD (b :: r)
  | _ => true
def rowD (d : PyData) : Bool := match d with
  | .tuple ds => ds.all litD && ascD ds
  | _ => false
theorem isT_str' {d : PyData} (h : isT "str" d = true) : ∃ z, d = .str z := by
  cases d <;> first | exact ⟨_, rfl⟩ | (revert h; simp [isT])
theorem isT_bool' {d : PyData} (h : isT "bool" d = true) : ∃ z, d = .bool z := by
  cases d <;> first | exact ⟨_, rfl⟩ | (revert h; simp [isT])
theorem step_of {d : PyData} (h : stepD d = true) : ∃ n, d = .int n := by
  cases d <;> first | exact ⟨_, rfl⟩ | (revert h; simp [stepD])
theorem atom_shape {d : PyData} (h : atomD d = true) : (∃ k a, d = .tuple [.str k, .str a]) ∨ (∃ k a b, d = .tuple [.str k, .str a, .str b]) ∨ ∃ k a b n, d = .tuple [.str k, .str a, .str b, .int n] := by
  cases d with
  | tuple ds =>
    unfold atomD at h
    rw [Bool.and_eq_true, Bool.and_eq_true, List.all_eq_true] at h
    obtain ⟨h1, h2, h3⟩ := h
    have h1 := of_decide_eq_true h1
    match ds, h1 with
    | [a, b], _ =>
      obtain ⟨x, rfl⟩ := isT_str' (h2 a (by simp))
      obtain ⟨y, rfl⟩ := isT_str' (h2 b (by simp))
      exact .inl ⟨x, y, rfl⟩
    | [a, b, c], _ =>
      obtain ⟨x, rfl⟩ := isT_str' (h2 a (by simp))
      obtain ⟨y, rfl⟩ := isT_str' (h2 b (by simp))
      obtain ⟨z, rfl⟩ := isT_str' (h2 c (by simp))
      exact .inr (.inl ⟨x, y, z, rfl⟩)
    | a :: b :: c :: d :: r, _ =>
      obtain ⟨x, rfl⟩ := isT_str' (h2 a (by simp))
      obtain ⟨y, rfl⟩ := isT_str' (h2 b (by simp))
      obtain ⟨z, rfl⟩ := isT_str' (h2 c (by simp))
      unfold atomK at h3
      split at h3
      · have := of_decide_eq_true h3; simp at this
      · split at h3
        · rw [Bool.and_eq_true] at h3
          have := of_decide_eq_true h3.1; simp at this
        · split at h3
          · have := of_decide_eq_true h3; simp at this
          · rw [Bool.and_eq_true, Bool.and_eq_true] at h3
            obtain ⟨_, h4, h5⟩ := h3
            have h4 := of_decide_eq_true h4
            match r, h4 with
            | [], _ =>
              obtain ⟨n, rfl⟩ := step_of (d := d) h5
              exact .inr (.inr ⟨x, y, z, n, rfl⟩)
  | _ => cases h
theorem lit_shape {d : PyData} (h : litD d = true) : ∃ a b, d = .tuple [a, .bool b] ∧ atomD a = true := by
  unfold litD at h
  split at h
  · rename_i a b
    rw [Bool.and_eq_true] at h
    obtain ⟨z, rfl⟩ := isT_bool' h.1
    exact ⟨a, z, rfl, h.2⟩
  · cases h
theorem atom_key {d : PyData} (h : atomD d = true) : keyD d = true ∧ d.depth ≤ 1 ∧ (nk d).depth ≤ 1 := by
  rcases atom_shape h with ⟨k, a, rfl⟩ | ⟨k, a, b, rfl⟩ | ⟨k, a, b, n, rfl⟩ <;>
    (refine ⟨by simp [keyD, keysD], by simp [PyData.depth, PyData.depthAll], by simp [nk, nks, NestedKey.depth, NestedKey.depthAll]⟩)
theorem lit_key {d : PyData} (h : litD d = true) : keyD d = true ∧ d.depth ≤ 2 ∧ (nk d).depth ≤ 2 := by
  obtain ⟨a, b, rfl, ha⟩ := lit_shape h
  obtain ⟨h1, h2, h3⟩ := atom_key ha
  refine ⟨by simp [keyD, keysD, h1], by simp [PyData.depth, PyData.depthAll]; omega, by simp [nk, nks, NestedKey.depth, NestedKey.depthAll]; omega⟩
theorem alike_atom {a b : PyData} (ha : atomD a = true) (hb : atomD b = true) : PySem.W.alike a b = true := by
  rcases atom_shape ha with ⟨k, x, rfl⟩ | ⟨k, x, y, rfl⟩ | ⟨k, x, y, n, rfl⟩ <;> rcases atom_shape hb with ⟨k', x', rfl⟩ | ⟨k', x', y', rfl⟩ | ⟨k', x', y', n', rfl⟩ <;> simp [PySem.W.alike, PySem.W.alikeAll]
theorem alike_lit {a b : PyData} (ha : litD a = true) (hb : litD b = true) : PySem.W.alike a b = true := by
  obtain ⟨a, x, rfl, ha⟩ := lit_shape ha
  obtain ⟨b, y, rfl, hb⟩ := lit_shape hb
  simp [PySem.W.alike, PySem.W.alikeAll, alike_atom ha hb]
theorem eqv_atom {a b : PyData} (ha : atomD a = true) (hb : atomD b = true) : PyData.eqv a b = true ↔ a = b := by
  rcases atom_shape ha with ⟨k, x, rfl⟩ | ⟨k, x, y, rfl⟩ | ⟨k, x, y, n, rfl⟩ <;> rcases atom_shape hb with ⟨k', x', rfl⟩ | ⟨k', x', y', rfl⟩ | ⟨k', x', y', n', rfl⟩ <;> simp [PyData.eqv, PyData.eqvAll]
theorem eqv_lit {a b : PyData} (ha : litD a = true) (hb : litD b = true) : PyData.eqv a b = true ↔ a = b := by
  obtain ⟨a, x, rfl, ha⟩ := lit_shape ha
  obtain ⟨b, y, rfl, hb⟩ := lit_shape hb
  simp [PyData.eqv, PyData.eqvAll, eqv_atom ha hb]
theorem nk_atom {a b : PyData} (ha : atomD a = true) (hb : atomD b = true) (h : nk a = nk b) : a = b := by
  revert h
  rcases atom_shape ha with ⟨k, x, rfl⟩ | ⟨k, x, y, rfl⟩ | ⟨k, x, y, n, rfl⟩ <;> rcases atom_shape hb with ⟨k', x', rfl⟩ | ⟨k', x', y', rfl⟩ | ⟨k', x', y', n', rfl⟩ <;> simp [nk, nks]
theorem nk_lit {a b : PyData} (ha : litD a = true) (hb : litD b = true) (h : nk a = nk b) : a = b := by
  obtain ⟨a, x, rfl, ha⟩ := lit_shape ha
  obtain ⟨b, y, rfl, hb⟩ := lit_shape hb
  simp only [nk, nks, NestedKey.tup.injEq, List.cons.injEq, NestedKey.num.injEq, and_true] at h
  rw [nk_atom ha hb h.1]
  have : x = y := by
    have := h.2
    cases x <;> cases y <;> first | rfl | (exfalso; revert this; decide)
  rw [this]
theorem asc_iff : ∀ {ds : List PyData}, ascD ds = true ↔ ∀ j a b, ds[j]? = some a → ds[j + 1]? = some b → PySem.W.dataLt a b = true
  | [] => by simp [ascD]
  | [x] => by simp [ascD]
  | x :: y :: r => by
    rw [ascD, Bool.and_eq_true, asc_iff]
    constructor
    · rintro ⟨h1, h2⟩ j a b ha hb
      cases j with
      | zero => simp at ha hb; subst ha; subst hb; exact h1
      | succ j => exact h2 j a b (by simpa using ha) (by simpa using hb)
    · intro h
      exact ⟨h 0 x y rfl rfl, fun j a b ha hb => h (j + 1) a b (by simpa using ha) (by simpa using hb)⟩
end M21
/-! comprehensions, lists of data -/
namespace Hx
open PySem PySem.Spec PyProof.Rows L2
theorem cut_to {xs : List V} {i : Nat} (h : i ≤ xs.length) : cutV xs none (some (i : Int)) = xs.take i := by
  unfold cutV
  rw [HT.sIx_none, HT.sIx_nat, List.drop_zero, Nat.sub_zero, Nat.min_eq_left h]
theorem cut_from {xs : List V} {i : Nat} (h : i ≤ xs.length) : cutV xs (some (i : Int)) none = xs.drop i := by
  unfold cutV
  rw [HT.sIx_none, HT.sIx_nat, Nat.min_eq_left h]
  exact List.take_of_length_le (by rw [List.length_drop]; exact Nat.le_refl _)
theorem lcF {K : PySem.W.Frag} {H : Hp} {σ : L2.St} {g : TG} {tt : TT} {te : TE} {vs : List Nat} {J : It} {n : Nat} {Wg : Hp → Prop} {Y : Nat → Hp → V → Hp → Prop} (W : Walk J n Wg Y) (hWg : ∀ H', Ex H H' → Wg H') (hn : n ≤ 1000000) (f : Nat → Bool) (v : Nat → V) (σt : Nat → L2.St)
    (hg : ∀ i x G' H' H'', i < n → Stp NoM H H G' H' → Y i H' x H'' → ∀ Q : L2.St → Hp → Prop, (∀ G2 H2, Stp NoM G' H' G2 H2 → Q (σt i) H2) → g x (wipe σ vs) H'' Q) (hw : ∀ i, i < n → wipe (σt i) vs = wipe σ vs)
    (ht : ∀ i H', i < n → Ex H H' → ∀ Q : Bool → Hp → Prop, (∀ H2, Ex H' H2 → Q (f i) H2) → tt (σt i) H' Q)
    (he : ∀ i H', i < n → f i = true → Ex H H' → ∀ Q : VK, (∀ H2, Ex H' H2 → Q (v i) H2) → te (σt i) H' Q) {D : Addr} (hD : H D = none) {Qd : Hp → Prop}
    (hd : ∀ H', Ex H H' → SqL K H' D (((List.range n).filter f).map v) → H' D = some (.lst (((List.range n).filter f).map v)) → Qd H') :
    ∃ W : Nat → Nat → Hp → Prop, (∃ m, W 0 m (upd H D (.lst []))) ∧ ∀ i m H, W i m H →
      (J.stop i H ∧ Qd H) ∨ (J.go i H ∧ ∃ Nx : Hp → Prop, (∀ H', Nx H' → ∃ m', m' < m ∧ W (i + 1) m' H') ∧ ∀ x H', J.yld i H x H' → g x (wipe σ vs) H' fun σ2 H2 => wipe σ2 vs = wipe σ vs ∧ tt σ2 H2 fun b H3 =>
        if b = true then te σ2 H3 fun y H4 => ∃ acc, H4 D = some (.lst acc) ∧ acc.length < sizeLine ∧ Nx (upd H4 D (.lst (acc ++ [y]))) else Nx H3) := by
  refine lcW (M := NoM) W (Evl.Ex.refl H) hWg hn (fun i y _ => y = v i) (fun _ _ _ _ _ h => h) f σt hg hw (fun i G' H' hi a' Q q => ht i H' hi (a'.gg.trans a'.gh) Q fun H2 e => q G' H2 (Stp.of a'.gh e))
    (fun i G' H' hi hf a' Q q => he i H' hi hf (a'.gg.trans a'.gh) Q fun H2 e => q _ G' H2 (Stp.of a'.gh e) rfl) (fun _ _ h => h) hD (fun ys G' H' a' gD hl' hsel => ?_)
  rw [sel_flat hsel] at hl'
  exact hd H' (a'.gg.trans a'.gh) (SqL.of hl') hl'
def Vs (P : PyData → Prop) (G : Hp) (xs : List V) : Prop := ∀ x ∈ xs, ∃ d, Dt G x d ∧ P d
theorem Vs.ex {P : PyData → Prop} {G G' : Hp} (e : Ex G G') {xs : List V} (h : Vs P G xs) : Vs P G' xs := fun x hx => let ⟨d, a, b⟩ := h x hx; ⟨d, ex_dt e _ _ a, b⟩
theorem Vs.nil {P : PyData → Prop} {G : Hp} : Vs P G [] := fun x h => by cases h
theorem Vs.app {P : PyData → Prop} {G : Hp} {xs ys : List V} (h : Vs P G xs) (h' : Vs P G ys) : Vs P G (xs ++ ys) := fun x hx => by rcases List.mem_append.mp hx with hx | hx; exact h x hx; exact h' x hx
theorem Vs.one {P : PyData → Prop} {G : Hp} {x : V} {d : PyData} (h : Dt G x d) (p : P d) : Vs P G [x] := fun y hy => by rw [List.mem_singleton.mp hy]; exact ⟨d, h, p⟩
theorem Vs.cons {P : PyData → Prop} {G : Hp} {x : V} {xs : List V} {d : PyData} (h : Dt G x d) (p : P d) (t : Vs P G xs) : Vs P G (x :: xs) := (Vs.one h p).app t
theorem Vs.sub {P : PyData → Prop} {G : Hp} {xs ys : List V} (h : Vs P G xs) (s : ∀ y ∈ ys, y ∈ xs) : Vs P G ys := fun y hy => h y (s y hy)
theorem Vs.imp {P P' : PyData → Prop} {G : Hp} {xs : List V} (h : Vs P G xs) (i : ∀ d, P d → P' d) : Vs P' G xs := fun x hx => let ⟨d, a, b⟩ := h x hx; ⟨d, a, i d b⟩
theorem Vs.dta {P : PyData → Prop} {G : Hp} : ∀ {xs : List V}, Vs P G xs → ∃ ds, DtAll G xs ds ∧ ∀ d ∈ ds, P d
  | [], _ => ⟨[], .nil, (fun d h => by cases h)⟩
  | x :: xs, h => by
    obtain ⟨d, h1, h2⟩ := h x (List.mem_cons_self ..)
    obtain ⟨ds, h3, h4⟩ := Vs.dta (xs := xs) fun y hy => h y (List.mem_cons_of_mem _ hy)
    exact ⟨d :: ds, .cons h1 h3, fun e he => by rcases List.mem_cons.mp he with rfl | he; exact h2; exact h4 e he⟩
theorem lcV {K : PySem.W.Frag} {G H : Hp} {σ : L2.St} {g : TG} {te : TE} {vs : List Nat} {J : It} {n : Nat} {Wg : Hp → Prop} {Y : Nat → Hp → V → Hp → Prop} {P : PyData → Prop} (W : Walk J n Wg Y) (e : Ex G H) (hWg : ∀ H', Ex G H' → Wg H') (hn : n ≤ 1000000) (σt : Nat → L2.St)
    (hg : ∀ i x G' H' H'', i < n → Stp NoM G H G' H' → Y i H' x H'' → ∀ Q : L2.St → Hp → Prop, (∀ G2 H2, Stp NoM G' H' G2 H2 → Q (σt i) H2) → g x (wipe σ vs) H'' Q) (hw : ∀ i, i < n → wipe (σt i) vs = wipe σ vs)
    (he : ∀ i G' H', i < n → Stp NoM G H G' H' → ∀ Q : VK, (∀ v d G2 H2, Stp NoM G' H' G2 H2 → Dt G2 v d → P d → Q v H2) → te (σt i) H' Q) {D : Addr} (hD : H D = none) {Qd : Hp → Prop}
    (hd : ∀ ys G' H', Stp NoM G H G' H' → G' D = none → H' D = some (.lst ys) → Vs P G' ys → ys.length = n → Qd H') :
    ∃ W : Nat → Nat → Hp → Prop, (∃ m, W 0 m (upd H D (.lst []))) ∧ ∀ i m H, W i m H →
      (J.stop i H ∧ Qd H) ∨ (J.go i H ∧ ∃ Nx : Hp → Prop, (∀ H', Nx H' → ∃ m', m' < m ∧ W (i + 1) m' H') ∧ ∀ x H', J.yld i H x H' → g x (wipe σ vs) H' fun σ2 H2 => wipe σ2 vs = wipe σ vs ∧ tYes σ2 H2 fun b H3 =>
        if b = true then te σ2 H3 fun y H4 => ∃ acc, H4 D = some (.lst acc) ∧ acc.length < sizeLine ∧ Nx (upd H4 D (.lst (acc ++ [y]))) else Nx H3) := by
  refine lcW (M := NoM) W e hWg hn (fun i y G => ∃ d, Dt G y d ∧ P d) (fun _ _ _ _ e ⟨d, h, p⟩ => ⟨d, ex_dt e _ _ h, p⟩) (fun _ => true) σt hg hw (fun i G' H' hi a' Q q => yes_t a'.gh q)
    (fun i G' H' hi _ a' Q q => he i G' H' hi a' Q fun v d G2 H2 st h p => q v G2 H2 st ⟨d, h, p⟩) (fun _ _ h => h) hD (fun ys G' H' a' gD hl' hsel => ?_)
  refine hd ys G' H' a' gD hl' (fun x hx => ?_) (sel_all hsel).1
  obtain ⟨i, hi⟩ := List.getElem?_of_mem hx
  have h2 := (sel_all hsel).2 i (by rw [← (sel_all hsel).1]; exact (List.getElem?_eq_some_iff.mp hi).1)
  obtain ⟨y, hy, r⟩ := h2
  rw [hi] at hy
  obtain rfl := Option.some.inj hy
  exact r
end Hx
/-! what stands, counted: plainly -/
namespace M21
open PySem PySem.Spec PyProof.Rows Hx
def negD (d : PyData) : PyData := match d with
  | .tuple [a, .bool b] => .tuple [a, .bool (!b)]
  | d => d
theorem neg_lit {d : PyData} (h : litD d = true) : litD (negD d) = true := by
  obtain ⟨a, b, rfl, ha⟩ := lit_shape h
  simp [negD, litD, isT, ha]
theorem neg_neg {d : PyData} (h : litD d = true) : negD (negD d) = d := by
  obtain ⟨a, b, rfl, ha⟩ := lit_shape h
  simp [negD]
theorem neg_ne {d : PyData} (h : litD d = true) : nk (negD d) ≠ nk d := by
  intro e
  have := nk_lit (neg_lit h) h e
  obtain ⟨a, b, rfl, ha⟩ := lit_shape h
  simp [negD] at this
theorem key_neg {x y : PyData} (hx : litD x = true) (hy : litD y = true) : nk (negD x) = nk y ↔ nk x = nk (negD y) := by
  constructor
  · intro e
    rw [← nk_lit (neg_lit hx) hy e, neg_neg hx]
  · intro e
    rw [nk_lit hx (neg_lit hy) e, neg_neg hy]
def metOf (S : List NestedKey) (r : List PyData) : Nat := (r.filter fun x => decide (nk x ∈ S)).length
def leftOf (S : List NestedKey) (r : List PyData) : Nat := (r.filter fun x => decide (nk x ∉ S ∧ nk (negD x) ∉ S)).length
theorem metOf_cons (S : List NestedKey) (x : PyData) (r : List PyData) : metOf S (x :: r) = (if nk x ∈ S then 1 else 0) + metOf S r := by
  unfold metOf
  rw [List.filter_cons]
  by_cases h : nk x ∈ S
  · rw [if_pos (decide_eq_true h), if_pos h, List.length_cons]; omega
  · rw [if_neg (by simp [h]), if_neg h]; omega
theorem leftOf_cons (S : List NestedKey) (x : PyData) (r : List PyData) : leftOf S (x :: r) = (if nk x ∉ S ∧ nk (negD x) ∉ S then 1 else 0) + leftOf S r := by
  unfold leftOf
  rw [List.filter_cons]
  by_cases h : nk x ∉ S ∧ nk (negD x) ∉ S
  · rw [if_pos (decide_eq_true h), if_pos h, List.length_cons]; omega
  · rw [if_neg (by rw [decide_eq_true_iff]; exact h), if_neg h]; omega
theorem met_snoc {S : List NestedKey} {k : NestedKey} (hk : k ∉ S) : ∀ {r : List PyData}, (r.map nk).Nodup → (metOf (S ++ [k]) r : Int) = metOf S r + (if k ∈ r.map nk then 1 else 0)
  | [], _ => by simp [metOf]
  | x :: r, nd => by
    rw [List.map_cons, List.nodup_cons] at nd
    have ih := met_snoc hk nd.2
    rw [metOf_cons, metOf_cons, List.map_cons]
    by_cases e : nk x = k
    · subst e
      rw [if_pos (by simp), if_neg hk, if_pos (List.mem_cons_self ..)]
      rw [if_neg nd.1] at ih
      omega
    · have e1 : (nk x ∈ S ++ [k]) ↔ nk x ∈ S := by simp [e]
      have e2 : (k ∈ nk x :: r.map nk) ↔ k ∈ r.map nk := by
        rw [List.mem_cons]
        exact ⟨fun z => z.resolve_left (Ne.symm e), .inr⟩
      simp only [e1, e2]
      omega
theorem left_snoc {S : List NestedKey} {l : PyData} (hl : litD l = true) (h1 : nk l ∉ S) (h2 : nk (negD l) ∉ S) : ∀ {r : List PyData}, (∀ x ∈ r, litD x = true) → (r.map nk).Nodup →
    (leftOf (S ++ [nk l]) r : Int) = leftOf S r - (if nk l ∈ r.map nk then 1 else 0) - (if nk (negD l) ∈ r.map nk then 1 else 0)
  | [], _, _ => by simp [leftOf]
  | x :: r, lit, nd => by
    have hx := lit x (List.mem_cons_self ..)
    rw [List.map_cons, List.nodup_cons] at nd
    have ih := left_snoc hl h1 h2 (fun y hy => lit y (List.mem_cons_of_mem _ hy)) nd.2
    rw [leftOf_cons, leftOf_cons, List.map_cons]
    have nn := neg_ne hl
    by_cases e : nk x = nk l
    · have : x = l := nk_lit hx hl e
      subst this
      rw [if_neg (by simp), if_pos ⟨h1, h2⟩, if_pos (List.mem_cons_self ..)]
      have e2 : (nk (negD x) ∈ nk x :: r.map nk) ↔ nk (negD x) ∈ r.map nk := by
        rw [List.mem_cons]
        exact ⟨fun z => z.resolve_left nn, .inr⟩
      simp only [e2]
      rw [if_neg nd.1] at ih
      omega
    · by_cases e' : nk x = nk (negD l)
      · have : x = negD l := nk_lit hx (neg_lit hl) e'
        subst this
        rw [neg_neg hl, if_neg (by simp), if_pos ⟨h2, h1⟩]
        have e2 : (nk l ∈ nk (negD l) :: r.map nk) ↔ nk l ∈ r.map nk := by
          rw [List.mem_cons]
          exact ⟨fun z => z.resolve_left (Ne.symm nn), .inr⟩
        simp only [e2]
        rw [if_pos (List.mem_cons_self ..)]
        rw [if_neg nd.1] at ih
        omega
      · have en : nk (negD x) ≠ nk l := fun z => e' ((key_neg hx hl).mp z)
        have e1 : (nk x ∉ S ++ [nk l] ∧ nk (negD x) ∉ S ++ [nk l]) ↔ (nk x ∉ S ∧ nk (negD x) ∉ S) := by simp [e, en]
        have e2 : (nk l ∈ nk x :: r.map nk) ↔ nk l ∈ r.map nk := by
          rw [List.mem_cons]
          exact ⟨fun z => z.resolve_left (Ne.symm e), .inr⟩
        have e3 : (nk (negD l) ∈ nk x :: r.map nk) ↔ nk (negD l) ∈ r.map nk := by
          rw [List.mem_cons]
          exact ⟨fun z => z.resolve_left (Ne.symm e'), .inr⟩
        simp only [e1, e2, e3]
        omega
/-- the rows in which a literal is -/
def occ (rows : List (List PyData)) (k : NestedKey) : List Nat := (List.range rows.length).filter fun n => decide (k ∈ (rows.getD n []).map nk)
theorem occ_nodup (rows : List (List PyData)) (k : NestedKey) : (occ rows k).Nodup := List.nodup_range.filter _
theorem occ_mem {rows : List (List PyData)} {k : NestedKey} {n : Nat} : n ∈ occ rows k ↔ n < rows.length ∧ k ∈ (rows.getD n []).map nk := by
  unfold occ
  rw [List.mem_filter, List.mem_range, decide_eq_true_iff]
/-- total of the keys -/
theorem occ_snoc (rows : List (List PyData)) (r : List PyData) (k : NestedKey) : occ (rows ++ [r]) k = occ rows k ++ (if k ∈ r.map nk then [rows.length] else []) := by
  unfold occ
  rw [List.length_append, List.length_singleton, List.range_succ, List.filter_append]
  congr 1
  · apply List.filter_congr
    intro n hn
    have := List.mem_range.mp hn
    rw [List.getD_eq_getElem?_getD, List.getElem?_append_left this, ← List.getD_eq_getElem?_getD]
  · rw [List.filter_cons]
    have : (rows ++ [r]).getD rows.length [] = r := by rw [List.getD_eq_getElem?_getD]; simp
    rw [this]
    by_cases h : k ∈ r.map nk
    · rw [if_pos (decide_eq_true h), if_pos h]; rfl
    · rw [if_neg (by rw [decide_eq_true_iff]; exact h), if_neg h]; rfl
def openB (S : List NestedKey) (x : PyData) : Bool := decide (nk x ∉ S ∧ nk (negD x) ∉ S)
end M21
/-! what goes along: plainly -/
namespace M21
open PySem PySem.Spec PyProof.Rows Hx
abbrev Rws := List (List PyData)
def isBrk (S : List NestedKey) (r : List PyData) : Bool := decide (metOf S r = 0 ∧ leftOf S r = 0)
def isGo (S : List NestedKey) (r : List PyData) : Bool := decide (metOf S r = 0 ∧ leftOf S r = 1)
def brkN (rows : Rws) (S : List NestedKey) : Option Nat := (List.range rows.length).find? fun n => isBrk S (rows.getD n [])
def goN (rows : Rws) (S : List NestedKey) : Option Nat := (List.range rows.length).find? fun n => isGo S (rows.getD n [])
def openOf (S : List NestedKey) (r : List PyData) : PyData := (r.filter (openB S)).headD .none
def goSteps (rows : Rws) : Nat → List PyData → List (PyData × Nat)
  | 0, _ => []
  | f + 1, S => match brkN rows (S.map nk) with
    | some _ => []
    | none => match goN rows (S.map nk) with
      | none => []
      | some n => (openOf (S.map nk) (rows.getD n []), n) :: goSteps rows f (S ++ [openOf (S.map nk) (rows.getD n [])])
def unmet (rows : Rws) (S : List NestedKey) : Nat := (rows.filter fun r => decide (metOf S r = 0)).length
def stepsOf (rows : Rws) (lits : List PyData) : List (PyData × Nat) := goSteps rows (rows.length + 1) lits
def encS (p : PyData × Nat) : PyData := .tuple [p.1, .int p.2]
def resD (rows : Rws) (lits : List PyData) : PyData := match brkN rows ((lits ++ (stepsOf rows lits).map (·.1)).map nk) with
  | some n => .tuple [.str (Str.ofString "broken"), .list ((stepsOf rows lits).map encS), .int n]
  | none => .tuple [.str (Str.ofString "stands"), .list ((stepsOf rows lits).map encS)]
theorem find_min {N n : Nat} {p : Nat → Bool} {gs : List Nat} (h : ∀ j, j ∈ gs ↔ j < N ∧ p j = true) (hn : n ∈ gs) (hm : ∀ j ∈ gs, n ≤ j) : (List.range N).find? p = some n := by
  rw [List.find?_range_eq_some]
  obtain ⟨h1, h2⟩ := (h n).mp hn
  refine ⟨h2, List.mem_range.mpr h1, fun j hj => ?_⟩
  cases e : p j with
  | false => rfl
  | true => exact absurd (hm j ((h j).mpr ⟨by omega, e⟩)) (by omega)
theorem find_no {N : Nat} {p : Nat → Bool} {gs : List Nat} (h : ∀ j, j ∈ gs ↔ j < N ∧ p j = true) (hn : gs = []) : (List.range N).find? p = none := by
  rw [List.find?_range_eq_none]
  intro j hj
  cases e : p j with
  | false => rfl
  | true => have := (h j).mpr ⟨hj, e⟩; rw [hn] at this; cases this
theorem find_is {N n : Nat} {p : Nat → Bool} (h : (List.range N).find? p = some n) : n < N ∧ p n = true ∧ ∀ j, j < n → p j = false := by
  rw [List.find?_range_eq_some] at h
  obtain ⟨h1, h2, h3⟩ := h
  exact ⟨List.mem_range.mp h2, h1, fun j hj => by have := h3 j hj; simpa using this⟩
theorem metOf_mono {S S' : List NestedKey} (h : ∀ k ∈ S, k ∈ S') (r : List PyData) : metOf S r ≤ metOf S' r := by
  induction r with
  | nil => exact Nat.le_refl _
  | cons x r ih =>
    rw [metOf_cons, metOf_cons]
    by_cases e : nk x ∈ S
    · rw [if_pos e, if_pos (h _ e)]; omega
    · rw [if_neg e]; omega
theorem metOf_pos {S : List NestedKey} {r : List PyData} {x : PyData} (hx : x ∈ r) (h : nk x ∈ S) : 0 < metOf S r := by
  unfold metOf
  exact List.length_pos_of_mem (List.mem_filter.mpr ⟨hx, decide_eq_true h⟩)
theorem unmet_le (rows : Rws) (S : List NestedKey) : unmet rows S ≤ rows.length := List.length_filter_le _ _
theorem unmet_lt {S S' : List NestedKey} (h : ∀ k ∈ S, k ∈ S') : ∀ {rows : Rws} {r : List PyData}, r ∈ rows → metOf S r = 0 → 0 < metOf S' r → unmet rows S' < unmet rows S
  | x :: rows, r, hr, h0, h1 => by
    unfold unmet
    have mono : ∀ rows : Rws, (rows.filter fun r => decide (metOf S' r = 0)).length ≤ (rows.filter fun r => decide (metOf S r = 0)).length := by
      intro rows
      induction rows with
      | nil => exact Nat.le_refl _
      | cons y rows ih =>
        rw [List.filter_cons, List.filter_cons]
        have := metOf_mono h y
        by_cases e : metOf S' y = 0
        · rw [if_pos (decide_eq_true e), if_pos (decide_eq_true (by omega)), List.length_cons, List.length_cons]; omega
        · rw [if_neg (by rw [decide_eq_true_iff]; exact e)]
          split
          · rw [List.length_cons]; omega
          · exact ih
    rw [List.filter_cons, List.filter_cons]
    rcases List.mem_cons.mp hr with rfl | hr
    · rw [if_neg (by rw [decide_eq_true_iff]; omega), if_pos (decide_eq_true h0), List.length_cons]
      have := mono rows
      omega
    · have ih := unmet_lt h hr h0 h1
      unfold unmet at ih
      have := metOf_mono h x
      by_cases e : metOf S' x = 0
      · rw [if_pos (decide_eq_true e), if_pos (decide_eq_true (by omega)), List.length_cons, List.length_cons]; omega
      · rw [if_neg (by rw [decide_eq_true_iff]; exact e)]
        split
        · rw [List.length_cons]; omega
        · exact ih
/-- the open literal of a row that goes along -/
theorem open_of {S : List NestedKey} {r : List PyData} (h : isGo S r = true) : openOf S r ∈ r ∧ nk (openOf S r) ∉ S ∧ nk (negD (openOf S r)) ∉ S ∧ r.filter (openB S) = [openOf S r] := by
  have h := (of_decide_eq_true h).2
  have e : (r.filter (openB S)).length = 1 := h
  match hf : r.filter (openB S), e with
  | [x], _ =>
    have hx : openOf S r = x := by unfold openOf; rw [hf]; rfl
    have hm : x ∈ r.filter (openB S) := by rw [hf]; exact List.mem_singleton.mpr rfl
    obtain ⟨h1, h2⟩ := List.mem_filter.mp hm
    have h2 := of_decide_eq_true h2
    rw [hx]
    exact ⟨h1, h2.1, h2.2, rfl⟩
theorem go_unmet {rows : Rws} {S : List NestedKey} {n : Nat} (h : goN rows S = some n) : n < rows.length ∧ isGo S (rows.getD n []) = true ∧ unmet rows (S ++ [nk (openOf S (rows.getD n []))]) < unmet rows S := by
  obtain ⟨h1, h2, _⟩ := find_is h
  have hm : rows.getD n [] ∈ rows := by rw [List.getD_eq_getElem?_getD, List.getElem?_eq_getElem h1]; exact List.getElem_mem h1
  refine ⟨h1, h2, unmet_lt (fun k hk => List.mem_append_left _ hk) hm (of_decide_eq_true h2).1 ?_⟩
  exact metOf_pos (open_of h2).1 (by simp)
/-- as far as the steps st the walk has come -/
structure Along (rows : Rws) (lits : List PyData) (st : List (PyData × Nat)) : Prop where
  eq : stepsOf rows lits = st ++ goSteps rows (rows.length + 1 - st.length) (lits ++ st.map (·.1))
  un : unmet rows ((lits ++ st.map (·.1)).map nk) + st.length ≤ rows.length
theorem along_0 (rows : Rws) (lits : List PyData) : Along rows lits [] := ⟨by simp [stepsOf], by simpa using unmet_le rows _⟩
theorem Along.go {rows : Rws} {lits : List PyData} {st : List (PyData × Nat)} (a : Along rows lits st) {n : Nat} (hb : brkN rows ((lits ++ st.map (·.1)).map nk) = none) (hg : goN rows ((lits ++ st.map (·.1)).map nk) = some n) :
    Along rows lits (st ++ [(openOf ((lits ++ st.map (·.1)).map nk) (rows.getD n []), n)]) := by
  have h1 := a.un
  obtain ⟨g1, g2, g3⟩ := go_unmet hg
  obtain ⟨k, hk⟩ : ∃ k, rows.length + 1 - st.length = k + 1 := ⟨rows.length - st.length, by omega⟩
  have e : ∀ x : PyData × Nat, lits ++ (st ++ [x]).map (·.1) = (lits ++ st.map (·.1)) ++ [x.1] := fun x => by simp
  have e2 : ∀ x : PyData × Nat, (st ++ [x]).length = st.length + 1 := fun x => by simp
  refine ⟨?_, ?_⟩
  · rw [a.eq, hk, goSteps, hb, hg]
    dsimp only
    rw [e, e2, show rows.length + 1 - (st.length + 1) = k by omega]
    simp
  · rw [e, e2]
    generalize lits ++ st.map (·.1) = S at g3 h1 ⊢
    rw [List.map_append]
    show unmet rows (S.map nk ++ [nk (openOf (S.map nk) (rows.getD n []))]) + _ ≤ _
    omega
theorem Along.done {rows : Rws} {lits : List PyData} {st : List (PyData × Nat)} (a : Along rows lits st) (h : (brkN rows ((lits ++ st.map (·.1)).map nk)).isSome = true ∨ goN rows ((lits ++ st.map (·.1)).map nk) = none) : stepsOf rows lits = st := by
  have h1 := a.un
  obtain ⟨k, hk⟩ : ∃ k, rows.length + 1 - st.length = k + 1 := ⟨rows.length - st.length, by omega⟩
  rw [a.eq, hk, goSteps]
  cases hb : brkN rows ((lits ++ st.map (·.1)).map nk) with
  | some n => simp
  | none =>
    rcases h with h | h
    · rw [hb] at h; cases h
    · rw [h]; simp
end M21
namespace K21
open PySem PySem.Spec PyProof.Rows L2 Hx Hd
open Evl (pss_cut tCut ex_l ex_t)
open M21
/-- the stream at s: the script's list, the cell, the place -/
structure Strm (H : Hp) (s L : Addr) : Prop where
  ex : ∃ (ns : List Int) (c k : Int), H s = some (.lst [.ref L, .int c, .int k]) ∧ H L = some (.lst (ns.map V.int)) ∧ L ≠ s ∧ 0 ≤ c ∧ 0 ≤ k ∧ ns.length ≤ 63
/-- all but s as it was -/
abbrev Kp (s : Addr) (H H' : Hp) : Prop := ∀ a o, a ≠ s → H a = some o → H' a = some o
theorem Kp.refl (s : Addr) (H : Hp) : Kp s H H := fun _ _ _ h => h
theorem Kp.trans {s : Addr} {H H1 H2 : Hp} (a : Kp s H H1) (b : Kp s H1 H2) : Kp s H H2 := fun x o n h => b x o n (a x o n h)
theorem Kp.upd {s : Addr} {H H1 : Hp} {o : HO} (a : Kp s H H1) : Kp s H (upd H1 s o) := fun x u n h => by rw [upd_ne n]; exact a x u n h
def spNext : Sp := fun vs H Q _ => ∃ s L m, vs = [.ref s, .int m] ∧ Strm H s L ∧ 1 ≤ m ∧ m < 2147483648 ∧ ∀ d H2, 0 ≤ d → d < m → Kp s H H2 → Strm H2 s L → Q (.int d) H2
theorem big1 : CMulW ((10 : Int) ^ (64 : Int).toNat) ((10 : Int) ^ (64 : Int).toNat) := wide_mul (a := 300) (b := 300) (by decide +kernel) (by decide +kernel) (by decide) (by decide) (by decide)
theorem big2 : CMulW ((10 : Int) ^ (64 : Int).toNat * (10 : Int) ^ (64 : Int).toNat) ((10 : Int) ^ (64 : Int).toNat) := wide_mul (a := 600) (b := 300) (by decide +kernel) (by decide +kernel) (by decide) (by decide) (by decide)
theorem big3 : (10 : Int) ^ (64 : Int).toNat * (10 : Int) ^ (64 : Int).toNat * (10 : Int) ^ (64 : Int).toNat > 0 := by decide +kernel
theorem kp_seqL {K : PySem.W.Frag} {s r : Addr} {H H' : Hp} {xs : List V} (k : Kp s H H') (hn : r ≠ s) (h : SqL K H r xs) : SqL K H' r xs := by
  rcases h with (h | ⟨o, h⟩) | h
  · exact .inl (.inl (k _ _ hn h))
  · exact .inl (.inr ⟨o, k _ _ hn h⟩)
  · exact .inr h
theorem kp_seqT {K : PySem.W.Frag} {s r : Addr} {H H' : Hp} {xs : List V} (k : Kp s H H') (hn : r ≠ s) (h : SqT K H r xs) : SqT K H' r xs := by
  rcases h with (h | ⟨o, h⟩) | h
  · exact .inl (.inl (k _ _ hn h))
  · exact .inl (.inr ⟨o, k _ _ hn h⟩)
  · exact .inr h
theorem Strm.there {H : Hp} {s L : Addr} (h : Strm H s L) : ∃ o, H s = some o := by
  obtain ⟨ns, c, k, h, _⟩ := h.ex
  exact ⟨_, h⟩
theorem Strm.thereL {H : Hp} {s L : Addr} (h : Strm H s L) : ∃ o, H L = some o := by
  obtain ⟨ns, c, k, _, h, _⟩ := h.ex
  exact ⟨_, h⟩
theorem Strm.keep {H H' : Hp} {s L : Addr} (h : Strm H s L) (e : Ex H H') : Strm H' s L := by
  obtain ⟨ns, c, k, h1, h2, h3⟩ := h.ex
  exact ⟨ns, c, k, e _ _ h1, e _ _ h2, h3⟩
/-- what was not there at the start changes -/
theorem Strm.mut {H H' : Hp} {s L p : Addr} {o : HO} (h : Strm H' s L) (h0 : Strm H s L) (hp : H p = Option.none) : Strm (L2.upd H' p o) s L := by
  obtain ⟨ns, c, k, h1, h2, h3⟩ := h.ex
  obtain ⟨o1, e1⟩ := h0.there
  obtain ⟨o2, e2⟩ := h0.thereL
  exact ⟨ns, c, k, by rw [upd_ne (ne_of_none e1 hp)]; exact h1, by rw [upd_ne (ne_of_none e2 hp)]; exact h2, h3⟩
theorem Kp.none {s p : Addr} {H H' : Hp} (k : Kp s H H') (hs : ∃ o, H' s = some o) (h : H' p = Option.none) : H p = Option.none := by
  cases e : H p with
  | none => rfl
  | some o =>
    by_cases hp : p = s
    · obtain ⟨u, hu⟩ := hs
      rw [hp, hu] at h; cases h
    · rw [k p o hp e] at h; cases h
theorem Kp.new {s p : Addr} {H : Hp} {o : HO} (h : H p = Option.none) : Kp s H (L2.upd H p o) := fun x u _ q => by rw [upd_ne (ne_of_none q h)]; exact q
/-- what is new since H changes -/
theorem Kp.mut {s p : Addr} {H H' : Hp} {o : HO} (k : Kp s H H') (h : H p = Option.none) : Kp s H (L2.upd H' p o) := fun x u n q => by rw [upd_ne (ne_of_none q h)]; exact k x u n q
/-- a step of G beside it -/
theorem stp_kp {s : Addr} {G H H' : Hp} (e : Ex G H) (g : G s = Option.none) (k : Kp s H H') (hs : ∃ o, H' s = some o) : Stp (· = s) G H G H' :=
  ⟨fun a o n h => k a o n h, fun a h => k.none hs h, Evl.Ex.refl _, fun a o h => k a o (fun z => by rw [z, g] at h; cases h) (e a o h), fun _ _ h => h⟩
theorem hu65 {A : Around} {k : Nat} (hr : Room k A) : A.units + 65 < cLine := by have := hr.un; omega
section
variable {P : Program} {w : World} {K : PySem.W.Frag} {mg : Str → Option Value} {base : Heap}
abbrev N_law_next : List Str := ["stream", "many", "k", "cell", "digit"]
theorem sc_law_next : FnScope N_law_next ["stream", "many"] (defScope (top 32)) := ⟨rfl, rfl, rfl, by decide +kernel, rfl, by decide +kernel, by decide +kernel⟩
theorem ok_next (T : Txt K mg) : Cal P w K mg base CX0 1 "_law_next" ["stream", "many"] spNext := by
  refine mkCal T.g__law_next T.d__law_next sc_law_next (fun _ _ _ _ _ _ us hl => match us, hl with | [_, _], _ => rfl) (fun vs H Q E h => ?_) fun cdv A outer s0 H vs Q E hr h => ?_
  · obtain ⟨x, _, d, rfl, _⟩ := h; rfl
  obtain ⟨s, L, m, rfl, st, m1, m2, q⟩ := h
  obtain ⟨ns, c, k, hs, hL, hne, c0, k0, hn⟩ := st.ex
  refine ⟨_, (pss_cut (ps_if (pt_cmpR op_eq (pe_ix (ixL (K := K)) (pv 0) pe_int (fun _ _ => rfl)) pe_int (nomark _)) (pss_cons (ps_set (i := 2) sc_law_next.nd rfl (Or.inl rfl) (pe_ix (ixL (K := K)) (pv 0) pe_int (fun _ _ => rfl)))
      (pss_cons (ps_set (i := 3) sc_law_next.nd rfl (Or.inl rfl) (pe_op op_add pe_int (pv 2)))
      (pss_cut (ps_if (pt_cmpR op_lt (pv 2) (pe_callB (lenL (K := K)) (by rfl) T.n_len PySem.boot_len (pa_cons (pe_ix (ixL (K := K)) (pv 0) pe_int (fun _ _ => rfl)) pa_nil)) (nomark _)) (pss_one (ps_set (i := 3) sc_law_next.nd rfl (Or.inl rfl) (pe_op op_mod (pe_callTy call_int1 (by rfl) T.n_int (by decide +kernel) (pa_cons (pe_callB call_abs (by rfl) T.n_abs (by decide +kernel) (pa_cons (pe_ix (ixL (K := K)) (pe_ix (ixL (K := K)) (pv 0) pe_int (fun _ _ => rfl)) (pv 2) (fun _ _ => rfl)) pa_nil)) pa_nil)) (pe_op op_mulW (pe_op op_mulW (pe_op op_pow pe_int pe_int) (pe_op op_pow pe_int pe_int)) (pe_op op_pow pe_int pe_int))))) pss_nil)
      (pss_cut (ps_if (pt_cmpR op_lt (pv 3) (pe_op op_pow pe_int pe_int) (nomark _)) (pss_cons (ps_set (i := 3) sc_law_next.nd rfl (Or.inl rfl) (pe_op op_mod (pe_callTy call_int1 (by rfl) T.n_int (by decide +kernel) (pa_cons (pe_op op_add (pe_op op_add (pe_op op_mul (pv 3) pe_int) (pe_op op_mul (pv 2) pe_int)) pe_int) pa_nil)) pe_int))
      (pss_one (ps_set (i := 3) sc_law_next.nd rfl (Or.inl rfl) (pe_op op_add (pe_op op_mul (pe_op op_mod (pe_callTy call_int1 (by rfl) T.n_int (by decide +kernel) (pa_cons (pe_op op_add (pe_op op_mul (pv 3) pe_int) pe_int) pa_nil)) pe_int) pe_int) (pv 3))))) pss_nil)
      (pss_cons (ps_asg (pv 3) (pg_sub (pv 0) pe_int set_list))
      (pss_one (ps_asg (pe_op op_add (pv 2) pe_int) (pg_sub (pv 0) pe_int set_list)))))))) pss_nil)
      (pss_cons (ps_set (i := 4) sc_law_next.nd rfl (Or.inl rfl) (pe_op op_mod (pe_callTy call_int1 (by rfl) T.n_int (by decide +kernel) (pa_cons (pe_ix (ixL (K := K)) (pv 0) pe_int (fun _ _ => rfl)) pa_nil)) (pv 1)))
      (pss_cons (ps_asg (pe_op op_fdivW (pe_ix (ixL (K := K)) (pv 0) pe_int (fun _ _ => rfl)) (pv 1)) (pg_sub (pv 0) pe_int set_list))
      (pss_one (ps_ret (pv 4)))))), ?_⟩
  refine ⟨fun σ' H' => ∃ kv cv c' k', σ' = [some (.ref s), some (.int m), kv, cv, none] ∧ 0 ≤ c' ∧ 0 ≤ k' ∧ H' s = some (.lst [.ref L, .int c', .int k']) ∧ Kp s H H', ?_, ?_⟩
  · -- the cell
    refine ⟨_, rfl, s, _, 1, _, rfl, rfl, SqL.of hs, rfl, rfl, _, rfl, ?_⟩
    refine ite2 (fun _ => ?_) (fun _ => ⟨none, none, c, k, rfl, c0, k0, hs, Kp.refl s H⟩)
    refine ⟨_, rfl, s, _, 2, _, rfl, rfl, SqL.of hs, rfl, ?_⟩
    refine ⟨_, rfl, 7, k, rfl, rfl, ?_⟩
    refine ⟨fun σ' H' => ∃ cv, σ' = [some (.ref s), some (.int m), some (.int k), some (.int cv), none] ∧ 0 ≤ cv ∧ H = H', ?_, ?_⟩
    · refine ⟨_, rfl, _, rfl, s, _, 0, _, rfl, rfl, SqL.of hs, rfl, L, _, rfl, .inl (SqL.of hL), k, _, rfl, rfl, _, rfl, ?_⟩
      refine ite2 (fun hk => ?_) (fun _ => ⟨7 + k, rfl, by omega, rfl⟩)
      have hk' : k.toNat < ns.length := by have := of_decide_eq_true hk; rw [List.length_map] at this; omega
      refine ⟨_, rfl, s, _, 0, _, rfl, rfl, SqL.of hs, rfl, _, rfl, L, _, k, .int (ns[k.toNat]'hk'), rfl, rfl, SqL.of hL, at_of (show k = ((k.toNat : Nat) : Int) by omega) (by simp [hk']), ns[k.toNat]'hk', rfl, .inl ⟨_, rfl, ?_⟩⟩
      refine ⟨10, 64, rfl, rfl, ⟨by decide, by decide, by decide⟩, 10, 64, rfl, rfl, ⟨by decide, by decide, by decide⟩, _, _, rfl, rfl, big1, 10, 64, rfl, rfl, ⟨by decide, by decide, by decide⟩, _, _, rfl, rfl, big2, _, _, rfl, rfl, big3, ?_⟩
      exact ⟨_, rfl, Int.emod_nonneg _ (by have := big3; omega), rfl⟩
    · rintro σ' H' ⟨cv, rfl, cv0, rfl⟩
      refine ⟨fun σ' H' => ∃ cv, σ' = [some (.ref s), some (.int m), some (.int k), some (.int cv), none] ∧ 0 ≤ cv ∧ H = H', ?_, ?_⟩
      · refine ⟨_, rfl, 10, 18, rfl, rfl, ⟨by decide, by decide, by decide⟩, cv, _, rfl, rfl, _, rfl, ?_⟩
        refine ite2 (fun hc => ?_) (fun _ => ⟨cv, rfl, cv0, rfl⟩)
        refine ⟨_, rfl, cv, 48271, rfl, rfl, .inr (by decide), _, rfl, k, 69621, rfl, rfl, .inr (by decide), _, _, rfl, rfl, _, 11, rfl, rfl, .inl ⟨_, rfl, _, 2147483647, rfl, rfl, (show (0 : Int) < 2147483647 by decide), ?_⟩⟩
        refine ⟨_, rfl, _, 16807, rfl, rfl, .inr (by decide), _, 13, rfl, rfl, .inl ⟨_, rfl, _, 2147483647, rfl, rfl, (show (0 : Int) < 2147483647 by decide), _, 65537, rfl, rfl, .inr (by decide), _, rfl, _, _, rfl, rfl, ?_⟩⟩
        refine ⟨_, rfl, ?_, rfl⟩
        have e1 := Int.emod_nonneg ((cv * 48271 + k * 69621 + 11) % 2147483647 * 16807 + 13) (show (2147483647 : Int) ≠ 0 by decide)
        have e2 := Int.emod_nonneg (cv * 48271 + k * 69621 + 11) (show (2147483647 : Int) ≠ 0 by decide)
        show 0 ≤ ((cv * 48271 + k * 69621 + 11) % 2147483647 * 16807 + 13) % 2147483647 * 65537 + (cv * 48271 + k * 69621 + 11) % 2147483647
        omega
      · rintro σ' H' ⟨cv, rfl, cv0, rfl⟩
        refine ⟨_, rfl, _, rfl, s, _, 1, 1, rfl, rfl, hs, rfl, ?_⟩
        refine ⟨_, rfl, k, 1, rfl, rfl, _, rfl, s, _, 2, 2, rfl, rfl, upd_same, rfl, ?_⟩
        exact ⟨_, _, cv, k + 1, rfl, cv0, by omega, upd_same, (Kp.upd (Kp.upd (Kp.refl s _)))⟩
  · rintro σ' H' ⟨kv, cv, c', k', rfl, c0', k0', hs', kp⟩
    refine ⟨_, rfl, s, _, 1, _, rfl, rfl, SqL.of hs', rfl, .inl ⟨_, rfl, _, rfl, _, m, rfl, rfl, by omega, ?_⟩⟩
    refine ⟨_, rfl, s, _, 1, _, rfl, rfl, SqL.of hs', rfl, _, rfl, _, m, rfl, rfl, wide_div (b := 31) (by omega) (by omega) (by decide) (by decide), _, rfl, s, _, 1, 1, rfl, rfl, hs', rfl, ?_⟩
    refine ⟨_, rfl, q _ _ (Int.emod_nonneg _ (by omega)) (Int.emod_lt_of_pos _ (by omega)) (Kp.upd kp) ⟨ns, c' / m, k', upd_same, ?_, hne, Int.ediv_nonneg c0' (by omega), k0', hn⟩⟩
    rw [upd_ne hne]
    exact kp L _ hne hL
def spStream (K : PySem.W.Frag) : Sp := fun vs H Q _ => ∃ (a : Addr) (ns : List Int), vs = [.ref a] ∧ SqL K H a (ns.map V.int) ∧ ns.length ≤ 63 ∧ ∀ s L H2, H s = none → H L = none → Ex H H2 → Strm H2 s L → Q (.ref s) H2
abbrev N_law_stream : List Str := ["script"]
theorem sc_law_stream : FnScope N_law_stream ["script"] (defScope (top 31)) := ⟨rfl, rfl, rfl, by decide +kernel, rfl, by decide +kernel, by decide +kernel⟩
theorem ok_stream (T : Txt K mg) : Cal P w K mg base CX0 1 "_law_stream" ["script"] (spStream K) := by
  refine mkCal T.g__law_stream T.d__law_stream sc_law_stream (fun _ _ _ _ _ _ us hl => match us, hl with | [_], _ => rfl) (fun vs H Q E h => ?_) fun cdv A outer s0 H vs Q E hr h => ?_
  · obtain ⟨x, d, rfl, _⟩ := h; rfl
  obtain ⟨a, ns, rfl, hs, hn, q⟩ := h
  refine ⟨_, (pss_one (ps_ret (pe_lst (pa_cons (pe_callTy (listOf (K := K)) (by rfl) T.n_list (by decide +kernel) (pa_cons (pv 0) pa_nil)) (pa_cons pe_int (pa_cons pe_int pa_nil)))))), ?_⟩
  refine ⟨_, rfl, a, _, rfl, .inl hs, fun L hL => ⟨by show 3 ≤ sizeLine; decide, fun s h2 => ?_⟩⟩
  have hne : L ≠ s := ne_of_none upd_same h2
  have hs0 : H s = none := by rw [upd_ne (Ne.symm hne)] at h2; exact h2
  exact q s L _ hs0 hL ((Evl.Ex.new hL).trans (Evl.Ex.new h2)) ⟨ns, 0, 0, upd_same, by rw [upd_ne hne]; exact upd_same, hne, by decide, by decide, hn⟩
def spPick (K : PySem.W.Frag) : Sp := fun vs H Q _ => ∃ s L r xs, vs = [.ref s, .ref r] ∧ Strm H s L ∧ (SqL K H r xs ∨ SqT K H r xs) ∧ r ≠ s ∧ 1 ≤ xs.length ∧ xs.length < 1073741824 ∧ ∀ (i : Nat) x H2, xs[i]? = some x → Kp s H H2 → Strm H2 s L → Q x H2
abbrev N_law_pick : List Str := ["stream", "rows"]
theorem sc_law_pick : FnScope N_law_pick ["stream", "rows"] (defScope (top 33)) := ⟨rfl, rfl, rfl, by decide +kernel, rfl, by decide +kernel, by decide +kernel⟩
theorem ok_pick (T : Txt K mg) (C__law_next : Cal P w K mg base CX0 1 "_law_next" ["stream", "many"] spNext) : Cal P w K mg base CX0 2 "_law_pick" ["stream", "rows"] (spPick K) := by
  refine mkCal T.g__law_pick T.d__law_pick sc_law_pick (fun _ _ _ _ _ _ us hl => match us, hl with | [_, _], _ => rfl) (fun vs H Q E h => ?_) fun cdv A outer s0 H vs Q E hr h => ?_
  · obtain ⟨x, _, d, _, rfl, _⟩ := h; rfl
  obtain ⟨s, L, r, xs, rfl, st, hx, hne, h1, h2, q⟩ := h
  refine ⟨_, (pss_one (ps_ret (pe_ix (ixS (K := K)) (pv 1) (pe_cal (E := E0) C__law_next (hr.mono (by decide)) pass0 (pa_cons (pv 0) (pa_cons (pe_callB (lenL (K := K)) (by rfl) T.n_len PySem.boot_len (pa_cons (pv 1) pa_nil)) pa_nil))) (fun _ _ => rfl)))), ?_⟩
  refine ⟨_, rfl, _, rfl, _, rfl, r, xs, rfl, hx, s, L, _, rfl, st, by omega, by omega, fun d H2 d0 d1 kp st2 => ?_⟩
  have hd : d.toNat < xs.length := by omega
  have ha : atI xs d = some xs[d.toNat] := at_of (show d = ((d.toNat : Nat) : Int) by omega) (by simp [hd])
  rcases hx with hx | hx
  · exact .inl ⟨r, xs, d, _, rfl, rfl, kp_seqL kp hne hx, ha, q d.toNat _ H2 (by simp [hd]) kp st2⟩
  · exact .inr ⟨r, xs, d, _, rfl, rfl, kp_seqT kp hne hx, ha, q d.toNat _ H2 (by simp [hd]) kp st2⟩
def spPickS : Sp := fun vs H Q _ => ∃ s L z, vs = [.ref s, .str z] ∧ Strm H s L ∧ 1 ≤ z.cps.size ∧ z.cps.size < 1000 ∧ ∀ c H2, Kp s H H2 → Strm H2 s L → Q (.str ⟨#[c]⟩) H2
theorem ok_pickS (T : Txt K mg) (C__law_next : Cal P w K mg base CX0 1 "_law_next" ["stream", "many"] spNext) : Cal P w K mg base CX0 2 "_law_pick" ["stream", "rows"] spPickS := by
  refine mkCal T.g__law_pick T.d__law_pick sc_law_pick (fun _ _ _ _ _ _ us hl => match us, hl with | [_, _], _ => rfl) (fun vs H Q E h => ?_) fun cdv A outer s0 H vs Q E hr h => ?_
  · obtain ⟨x, _, d, rfl, _⟩ := h; rfl
  obtain ⟨s, L, z, rfl, st, h1, h2, q⟩ := h
  refine ⟨_, (pss_one (ps_ret (pe_item_str (pv 1) (pe_cal (E := E0) C__law_next (hr.mono (by decide)) pass0 (pa_cons (pv 0) (pa_cons (pe_callB call_len_str (by rfl) T.n_len PySem.boot_len (pa_cons (pv 1) pa_nil)) pa_nil))) (fun _ _ => rfl)))), ?_⟩
  have hz : z.length = z.cps.size := rfl
  refine ⟨_, rfl, _, rfl, _, rfl, z, rfl, (by rw [hz]; exact Nat.le_trans (Nat.le_of_lt h2) (by decide)), s, L, _, rfl, st, (by rw [hz]; omega), (by rw [hz]; omega), fun d H2 d0 d1 kp st2 => ?_⟩
  rw [hz] at d1
  have hd : d.toNat < z.cps.size := by omega
  exact ⟨z, d, z.cps[d.toNat], rfl, rfl, d0, by omega, by rw [hz]; exact d1, by simp [hd], q _ _ kp st2⟩
def spShuf (K : PySem.W.Frag) : Sp := fun vs H Q _ => ∃ s L r xs, vs = [.ref s, .ref r] ∧ Strm H s L ∧ SqL K H r xs ∧ r ≠ s ∧ xs.length < 1000000 ∧ ∀ p ys H2, H p = none → Kp s H H2 → Strm H2 s L → H2 p = some (.lst ys) → ys.Perm xs → Q (.ref p) H2
abbrev N_law_shuffled : List Str := ["stream", "rows", "left", "found", "turn"]
theorem sc_law_shuffled : FnScope N_law_shuffled ["stream", "rows"] (defScope (top 35)) := ⟨rfl, rfl, rfl, by decide +kernel, rfl, by decide +kernel, by decide +kernel⟩
theorem ok_shuf (T : Txt K mg) (C__law_next : Cal P w K mg base CX0 1 "_law_next" ["stream", "many"] spNext) : Cal P w K mg base CX0 2 "_law_shuffled" ["stream", "rows"] (spShuf K) := by
  refine mkCal T.g__law_shuffled T.d__law_shuffled sc_law_shuffled (fun _ _ _ _ _ _ us hl => match us, hl with | [_, _], _ => rfl) (fun vs H Q E h => ?_) fun cdv A outer s0 H vs Q E hr h => ?_
  · obtain ⟨x, _, d, _, rfl, _⟩ := h; rfl
  obtain ⟨s, L, r, xs, rfl, st, hx, hne, h2, q⟩ := h
  refine ⟨_, (pss_cons (ps_set (i := 2) sc_law_shuffled.nd rfl (Or.inl rfl) (pe_callTy (listOf (K := K)) (by rfl) T.n_list (by decide +kernel) (pa_cons (pv 1) pa_nil)))
      (pss_cons (ps_set (i := 3) sc_law_shuffled.nd rfl (Or.inl rfl) (pe_lst pa_nil))
      (pss_cons (ps_for PassesOwn.never rfl (pi_range1 (by rfl) T.n_range (pa_cons (pe_callB (lenL (K := K)) (by rfl) T.n_len PySem.boot_len (pa_cons (pv 1) pa_nil)) pa_nil)) (pg_name (i := 4) sc_law_shuffled.nd rfl (Or.inl rfl)) (pss_one (ps_expr (pe_bm PySem.F.plainAttrs_list PySem.F.slot_list_append PySem.F.type_list_append mt_append (pv 3) (pa_cons (pe_bm PySem.F.plainAttrs_list PySem.F.slot_list_pop PySem.F.type_list_pop mt_popAt (pv 2) (pa_cons (pe_cal (E := E0) C__law_next (hr.mono (by decide)) pass0 (pa_cons (pv 0) (pa_cons (pe_callB (lenL (K := K)) (by rfl) T.n_len PySem.boot_len (pa_cons (pv 2) pa_nil)) pa_nil))) pa_nil)) pa_nil)))))
      (pss_one (ps_ret (pv 3)))))), ?_⟩
  refine ⟨_, rfl, r, xs, rfl, .inl hx, fun l hl => ⟨Nat.zero_le _, fun f hf => ?_⟩⟩
  have nlf : l ≠ f := ne_of_none upd_same hf
  have hf0 : H f = none := by rw [upd_ne (Ne.symm nlf)] at hf; exact hf
  have nls : s ≠ l := ne_of_none st.there.choose_spec hl
  have nfs : s ≠ f := ne_of_none st.there.choose_spec hf0
  have ex0 : Ex H (upd (upd H l (.lst xs)) f (.lst [])) := (Evl.Ex.new hl).trans (Evl.Ex.new hf)
  refine ⟨_, rfl, r, xs, rfl, .inl (ex_l ex0 hx), xs.length, rfl, by omega, by omega, ?_⟩
  refine for_it walk_range (fun i σ' H' => ∃ tv left found, σ' = [some (.ref s), some (.ref r), some (.ref l), some (.ref f), tv] ∧ Kp s H H' ∧ Strm H' s L ∧ H' l = some (.lst left) ∧ H' f = some (.lst found) ∧ (left ++ found).Perm xs ∧ left.length + i = xs.length)
    ⟨none, xs, [], rfl, fun a o _ h => ex0 a o h, st.keep ex0, by rw [upd_ne nlf]; exact upd_same, upd_same, by rw [List.append_nil], by omega⟩ (fun _ _ _ _ _ => trivial) ?_ ?_
  · rintro i x σ' H' H'' hi ⟨tv, left, found, rfl, kp, st', hl', hf', pm, hlen⟩ ⟨rfl, rfl⟩
    have hi' : i < xs.length := by simpa using hi
    refine ⟨_, rfl, .inl ⟨rfl, _, SqL.of hf'⟩, _, rfl, .inl ⟨rfl, _, SqL.of hl'⟩, _, rfl, _, rfl, l, left, rfl, (.inl (SqL.of hl')), s, L, _, rfl, st', by omega, by omega, fun d H2 d0 d1 kp2 st2 => ?_⟩
    have hd : d.toNat < left.length := by omega
    refine ⟨l, left, d, d.toNat, left[d.toNat], rfl, rfl, kp2 _ _ nls.symm hl', by omega, by omega, ?_, by simp [hd], ?_⟩
    · exact (ixN_seq (by unfold ixN; rw [if_pos d0, if_pos d1])).1
    have hf2 := kp2 _ _ nfs.symm hf'
    refine ⟨f, found, _, rfl, rfl, by rw [upd_ne (Ne.symm nlf)]; exact hf2, Nat.lt_of_le_of_lt (show found.length ≤ 1000000 by have := pm.length_eq; rw [List.length_append] at this; omega) (by decide), ?_⟩
    refine ⟨_, left.eraseIdx d.toNat, found ++ [left[d.toNat]], rfl, ((kp.trans kp2).mut hl).mut hf0, ?_, ?_, upd_same, ?_, ?_⟩
    · exact (st2.mut st hl).mut st hf0
    · rw [upd_ne nlf, upd_same]
    · have e := erase_perm left d.toNat _ (List.getElem?_eq_getElem hd)
      refine List.Perm.trans ?_ pm
      refine List.Perm.trans ?_ (List.Perm.append_right found e)
      rw [← List.append_assoc]
      exact (List.perm_append_singleton _ _)
    · rw [List.length_eraseIdx, if_pos hd]; omega
  · rintro σ' H' ⟨tv, left, found, rfl, kp, st', hl', hf', pm, hlen⟩
    have e0 : left = [] := List.eq_nil_of_length_eq_zero (by have : (xs.length : Int).toNat = xs.length := by omega
                                                             omega)
    subst e0
    exact ⟨_, rfl, q f found H' hf0 kp st' hf' (by simpa using pm)⟩
def spFrom : Sp := fun vs H Q _ => ∃ s L lo hi, vs = [.ref s, .int lo, .int hi] ∧ Strm H s L ∧ lo ≤ hi ∧ hi - lo < 1000000 ∧ ∀ d H2, lo ≤ d → d ≤ hi → Kp s H H2 → Strm H2 s L → Q (.int d) H2
abbrev N_law_from : List Str := ["stream", "low", "high"]
theorem sc_law_from : FnScope N_law_from ["stream", "low", "high"] (defScope (top 34)) := ⟨rfl, rfl, rfl, by decide +kernel, rfl, by decide +kernel, by decide +kernel⟩
theorem ok_from (T : Txt K mg) (C__law_next : Cal P w K mg base CX0 1 "_law_next" ["stream", "many"] spNext) : Cal P w K mg base CX0 2 "_law_from" ["stream", "low", "high"] spFrom := by
  refine mkCal T.g__law_from T.d__law_from sc_law_from (fun _ _ _ _ _ _ us hl => match us, hl with | [_, _, _], _ => rfl) (fun vs H Q E h => ?_) fun cdv A outer s0 H vs Q E hr h => ?_
  · obtain ⟨x, _, d, _, rfl, _⟩ := h; rfl
  obtain ⟨s, L, lo, hi, rfl, st, h1, h2, q⟩ := h
  refine ⟨_, (pss_one (ps_ret (pe_op op_add (pv 1) (pe_cal (E := E0) C__law_next (hr.mono (by decide)) pass0 (pa_cons (pv 0) (pa_cons (pe_op op_add (pe_op op_sub (pv 2) (pv 1)) pe_int) pa_nil)))))), ?_⟩
  refine ⟨_, rfl, _, rfl, _, rfl, _, rfl, hi, lo, rfl, rfl, _, 1, rfl, rfl, s, L, _, rfl, st, by omega, by omega, fun d H2 d0 d1 kp st2 => ?_⟩
  exact ⟨lo, d, rfl, rfl, q _ _ (by omega) (by omega) kp st2⟩
end
end K21
namespace K21
open PySem PySem.Spec PyProof.Rows L2 Hx Hd
open Evl (pss_cut tCut ex_l ex_t)
open M21
theorem Strm.free {H : Hp} {s L : Addr} (h : Strm H s L) : ∀ D, H D = none → ¬ D = s := fun D hD e => by
  obtain ⟨o, ho⟩ := h.there
  rw [e, ho] at hD; cases hD
theorem stp_go {s L : Addr} {G0 H0 G H H2 : Hp} (a : Stp (· = s) G0 H0 G H) (g : G s = none) (k : Kp s H H2) (st2 : Strm H2 s L) : Stp (· = s) G0 H0 G H2 := a.trans (stp_kp a.gh g k st2.there)
theorem cat_len (a b : Str) : (a ++ b).length = a.length + b.length := by
  show (a.cps ++ b.cps).size = _
  rw [Array.size_append]; rfl
theorem cps_app (a b : Str) : (a ++ b).cps.toList = a.cps.toList ++ b.cps.toList := by
  show (a.cps ++ b.cps).toList = _
  simp
/-- a step of the law's own: what stands in G stands, the stream moves -/
structure Ga (s L : Addr) (G0 H0 G H : Hp) : Prop where
  a : Stp (· = s) G0 H0 G H
  st : Strm H s L
  s0 : Strm H0 s L
  g0 : G0 s = none
section
variable {s L p : Addr} {o : HO} {G0 H0 G H G2 H2 : Hp}
theorem Ga.gs (h : Ga s L G0 H0 G H) : G s = none := h.a.fr s (some_ne h.s0.there.choose_spec) h.g0
theorem Ga.ge (h : Ga s L G0 H0 G H) : Ex G H := h.a.gh
theorem Ga.gg (h : Ga s L G0 H0 G H) : Ex G0 G := h.a.gg
theorem Ga.lay (h : Ga s L G0 H0 G H) (hp : H p = none) : Ga s L G0 H0 G (upd H p o) := ⟨h.a.trans (Stp.lay h.a.gh hp), h.st.keep (Evl.Ex.new hp), h.s0, h.g0⟩
theorem Ga.new (h : Ga s L G0 H0 G H) (hp : H p = none) : Ga s L G0 H0 (upd G p o) (upd H p o) := ⟨h.a.trans (Stp.new h.a.gh hp), h.st.keep (Evl.Ex.new hp), h.s0, h.g0⟩
theorem Ga.fr (h : Ga s L G0 H0 G H) (hp : H p = none) : Ex G (upd G p o) := Evl.Ex.new (Evl.fresh_back h.a.gh hp)
theorem Ga.next (h : Ga s L G0 H0 G H) (kp : Kp s H H2) (st2 : Strm H2 s L) : Ga s L G0 H0 G H2 := ⟨stp_go h.a h.gs kp st2, st2, h.s0, h.g0⟩
theorem Ga.refl (e : Ex G H) (st : Strm H s L) (g : G s = none) : Ga s L G H G H := ⟨Stp.refl e, st, st, g⟩
theorem Ga.ex (h : Ga s L G0 H0 G H) (e : Ex H H2) : Ga s L G0 H0 G H2 := ⟨h.a.trans (Stp.of h.a.gh e), h.st.keep e, h.s0, h.g0⟩
theorem Ga.trans (h : Ga s L G0 H0 G H) (b : Ga s L G H G2 H2) : Ga s L G0 H0 G2 H2 := ⟨h.a.trans b.a, b.st, h.s0, h.g0⟩
theorem Ga.stp (h : Ga s L G0 H0 G H) (b : Stp NoM G H G2 H2) : Ga s L G0 H0 G2 H2 := ⟨h.a.trans (b.imp fun _ z => z.elim), h.st.keep b.ex, h.s0, h.g0⟩
theorem Ga.dm (h : Ga s L G0 H0 G H) (hp : H p = none) : H0 p = none := h.a.dm p hp
theorem Ga.mut (h : Ga s L G0 H0 G H) (hp : H0 p = none) (g : G p = none) : Ga s L G0 H0 G (upd H p o) := ⟨h.a.mut (.inl hp) g, h.st.mut h.s0 hp, h.s0, h.g0⟩
theorem Ga.fix (h : Ga s L G0 H0 G H) (hp : H0 p = none) (e : H p = some o) : Ga s L G0 H0 (upd G p o) H := ⟨h.a.fix hp e, h.st, h.s0, h.g0⟩
theorem Ga.no (h : Ga s L G0 H0 G H) (hp : H p = none) : p ≠ s := h.st.free p hp
/-- a new thing stays what it is through a step -/
theorem Ga.keep (b : Ga s L G H G2 H2) (n : p ≠ s) (h : H p = some o) : H2 p = some o := b.a.hh p o n h
theorem Ga.gn (b : Ga s L G H G2 H2) (h : H p = some o) (g : G p = none) : G2 p = none := b.a.fr p (some_ne h) g
end
/-- a comprehension over draws -/
theorem lcGa {s L : Addr} {G0 H0 G H : Hp} {σ : L2.St} {g : TG} {te : TE} {vs : List Nat} {J : It} {n : Nat} {Wg : Hp → Prop} {Y : Nat → Hp → V → Hp → Prop} (w : Walk J n Wg Y) (g0 : Ga s L G0 H0 G H) (hWg : ∀ G' H', Ga s L G0 H0 G' H' → Ex G G' → Wg H') (hn : n ≤ 1000000)
    (R : Nat → V → Hp → Prop) (mono : ∀ i v G G', Ex G G' → R i v G → R i v G') (σt : Nat → L2.St)
    (hg : ∀ i x G' H' H'', i < n → Ga s L G0 H0 G' H' → Ex G G' → Y i H' x H'' → ∀ Q : L2.St → Hp → Prop, (H'' = H' → Q (σt i) H') → g x (wipe σ vs) H'' Q) (hw : ∀ i, i < n → wipe (σt i) vs = wipe σ vs)
    (he : ∀ i G' H', i < n → Ga s L G0 H0 G' H' → Ex G G' → ∀ Q : VK, (∀ v G2 H2, Ga s L G' H' G2 H2 → R i v G2 → Q v H2) → te (σt i) H' Q) (hY : ∀ i x G' H' H'', i < n → Ga s L G0 H0 G' H' → Y i H' x H'' → H'' = H') {D : Addr} (hD : H D = none) {Qd : Hp → Prop}
    (hd : ∀ ys G' H', Ga s L G0 H0 G' H' → Ex G G' → G' D = some (.lst ys) → ys.length = n → (∀ i y, ys[i]? = some y → R i y G') → Qd H') :
    ∃ W : Nat → Nat → Hp → Prop, (∃ m, W 0 m (upd H D (.lst []))) ∧ ∀ i m H, W i m H →
      (J.stop i H ∧ Qd H) ∨ (J.go i H ∧ ∃ Nx : Hp → Prop, (∀ H', Nx H' → ∃ m', m' < m ∧ W (i + 1) m' H') ∧ ∀ x H', J.yld i H x H' → g x (wipe σ vs) H' fun σ2 H2 => wipe σ2 vs = wipe σ vs ∧ tYes σ2 H2 fun b H3 =>
        if b = true then te σ2 H3 fun y H4 => ∃ acc, H4 D = some (.lst acc) ∧ acc.length < sizeLine ∧ Nx (upd H4 D (.lst (acc ++ [y]))) else Nx H3) := by
  have nD := g0.no hD
  have hD0 := g0.dm hD
  refine lc_it w (fun i H' => ∃ G' ys, Ga s L G0 H0 G' H' ∧ Ex G G' ∧ G' D = none ∧ H' D = some (.lst ys) ∧ ys.length = i ∧ ∀ j y, ys[j]? = some y → R j y G') ⟨G, [], g0.lay hD, Evl.Ex.refl _, Evl.fresh_back g0.ge hD, upd_same, rfl, fun j y h => by simp at h⟩
    (fun i H' _ ⟨G', _, a, e, _⟩ => hWg G' H' a e) (fun i x H' H'' hi ⟨G', ys, a, e, gD, hl, hlen, hr⟩ y => ?_) (fun H' ⟨G', ys, a, e, gD, hl, hlen, hr⟩ => ?_)
  · refine hg i x G' H' H'' hi a e y _ fun eq => ?_
    subst eq
    refine ⟨hw i hi, tYes_ifS ?_⟩
    refine he i G' _ hi a e _ fun v G2 H2 b r => ?_
    have hl2 := b.keep nD hl
    refine ⟨ys, hl2, Nat.lt_of_lt_of_le (show ys.length < 1000000 + 1 by omega) (by decide), G2, ys ++ [v], (a.trans b).mut hD0 (b.gn hl gD), e.trans b.gg, b.gn hl gD, upd_same, by simp [hlen], fun j y hj => ?_⟩
    rcases Nat.lt_or_ge j ys.length with h | h
    · rw [List.getElem?_append_left h] at hj
      exact mono _ _ _ _ b.gg (hr j y hj)
    · rw [List.getElem?_append_right h] at hj
      have : j - ys.length = 0 := by
        rcases Nat.eq_zero_or_pos (j - ys.length) with h0 | h0
        · exact h0
        · rw [List.getElem?_eq_none (by simp; omega)] at hj; cases hj
      rw [this] at hj
      have hj : v = y := by simpa using hj
      subst hj
      have : j = i := by omega
      subst this
      exact r
  · exact hd ys _ H' (a.fix hD0 hl) (e.trans (Evl.Ex.new gD)) upd_same hlen fun j y hj => mono _ _ _ _ (Evl.Ex.new gD) (hr j y hj)
theorem r_dta {G : Hp} {f : Nat → PyData} {ys : List V} {n : Nat} (hl : ys.length = n) (h : ∀ i y, ys[i]? = some y → Dt G y (f i)) : DtAll G ys ((List.range n).map f) := by
  refine dta_of (by simp [hl]) fun i v d hv hd => ?_
  rw [List.getElem?_map] at hd
  obtain ⟨j, hj, rfl⟩ := Option.map_eq_some_iff.mp hd
  rw [List.getElem?_range (by rw [← hl]; exact (List.getElem?_eq_some_iff.mp hv).1)] at hj
  cases hj
  exact h i v hv
end K21
/-! min and max of two texts -/
namespace Hx
open PySem PySem.Spec PyProof.Rows L2
theorem two_core {prog : Program} {w : World} {A : Around} {E : Value → Shared → Prop} {s : Shared} {Q : Value → Shared → Prop} {va vb : Value} {op : CmpOp} {bt : Nat → Nat → Bool} (hh : A.handled = none)
    (C : CmpOf prog w A.in1 op (fun i v => (#[va, vb] : Array Value)[i]? = some v) bt) (q : ∀ hp tk, (∀ c o, s.heap.get? c = some o → hp.get? c = some o) → Q (if bt 1 0 = true then vb else va) { s with heap := hp, toks := tk }) :
    wpAny (model prog w) A.in1 (pyIter (.ref s.heap.objs.size)) (fun it s2 => ∃ I fp wr n Pv St b2, it = .ref I ∧ Walks prog w A.in1 I fp wr n Pv St ∧ St 0 s2.heap ∧ (∀ b ∈ fp, b < s2.heap.objs.size) ∧ 0 < n ∧ CmpOf prog w A.in1 op Pv b2 ∧
      ∀ v hp tk, Pv (argBest b2 (n - 1)) v → (∀ b o, b ∉ wr → s2.heap.get? b = some o → hp.get? b = some o) → Q v { s2 with heap := hp, toks := tk }) E { s with heap := s.heap.push { cls := .type "tuple", data := .seq #[va, vb] } } := by
  have T : (s.heap.push { cls := .type "tuple", data := .seq #[va, vb] }).IsTuple s.heap.objs.size #[va, vb] := ⟨_, Heap.get?_push_size _ rfl, rfl, 0, by simp⟩
  have z : (s.heap.push { cls := .type "tuple", data := .seq #[va, vb] }).objs.size = s.heap.objs.size + 1 := Heap.size_push ..
  refine wpAny_pyIter_tuple T ?_
  refine ⟨_, [_, s.heap.objs.size], [_], _, _, _, bt, rfl, Walks.tuple (A := A.in1) hh _ s.heap.objs.size (Nat.ne_of_lt (by rw [z]; omega)) #[va, vb], ⟨⟨_, Heap.get?_push_size _ rfl, rfl, rfl⟩, T.push _⟩, ?_, by simp, C, ?_⟩
  · intro c hc
    show c < ((s.heap.push _).push _).objs.size
    rw [Heap.size_push, z]
    simp only [List.mem_cons, List.not_mem_nil, or_false] at hc
    rcases hc with rfl | rfl
    · rw [z]; exact Nat.lt_succ_self _
    · exact Nat.lt_succ_of_lt (Nat.lt_succ_self _)
  · intro v hp tk hv keep
    have e1 : (#[va, vb] : Array Value).size - 1 = 1 := rfl
    have hv2 : (#[va, vb] : Array Value)[argBest bt 1]? = some v := hv
    have e2 : argBest bt 1 = if bt 1 0 = true then 1 else 0 := rfl
    rw [e2] at hv2
    have e3 : v = if bt 1 0 = true then vb else va := by
      cases hb : bt 1 0 with
      | true => rw [hb] at hv2; simpa using hv2.symm
      | false => rw [hb] at hv2; simpa using hv2.symm
    rw [e3]
    refine q hp tk fun c o e => keep c o ?_ (Heap.get?_push_of_some _ (Heap.get?_push_of_some _ e))
    intro hm
    have h1 := List.mem_singleton.mp hm
    have h2 := Heap.lt_size e
    rw [h1, z] at h2
    exact Nat.lt_irrefl _ (Nat.lt_of_succ_lt h2)
def ltS (a b : Str) : Bool := decide (a.cps.toList < b.cps.toList)
theorem str_at2 {a b : Str} {t u : Tok} {i : Nat} {v : Value} (h : (#[Value.str a t, .str b u] : Array Value)[i]? = some v) : ∃ r, v = .str (if i = 0 then a else b) r := by
  match i, h with
  | 0, h => exact ⟨t, by simpa using h.symm⟩
  | 1, h => exact ⟨u, by simpa using h.symm⟩
theorem cmp_lt2 {prog : Program} {w : World} {A : Around} {a b : Str} {t u : Tok} : CmpOf prog w A .Lt (fun i v => (#[Value.str a t, .str b u] : Array Value)[i]? = some v) (fun i j => ltS (if i = 0 then a else b) (if j = 0 then a else b)) := by
  intro i j x y s Q E hx hy q
  obtain ⟨r1, rfl⟩ := str_at2 hx
  obtain ⟨r2, rfl⟩ := str_at2 hy
  exact PyProof.Rows.lt_str q
theorem cmp_gt2 {prog : Program} {w : World} {A : Around} {a b : Str} {t u : Tok} : CmpOf prog w A .Gt (fun i v => (#[Value.str a t, .str b u] : Array Value)[i]? = some v) (fun i j => ltS (if j = 0 then a else b) (if i = 0 then a else b)) := by
  intro i j x y s Q E hx hy q
  obtain ⟨r1, rfl⟩ := str_at2 hx
  obtain ⟨r2, rfl⟩ := str_at2 hy
  exact PySem.P.gt_str q
section
variable {X : Cx}
theorem call_min2S (hc : X.calm = true) : CallR X (.builtin "min") (fun xs H Q => ∃ i j : Str, xs = [.str i, .str j] ∧ Q (.str (if ltS j i = true then j else i)) H) := by
  intro pins s σ H xs us Q I r h
  obtain ⟨i, j, rfl, q⟩ := h
  obtain ⟨u, w', rfl, ⟨t, rfl⟩, ⟨t', rfl⟩⟩ := vals2 r
  refine call_min_two (two_core (I.ok.hd hc) cmp_lt2 fun h' tk k => ⟨_, H, I.kept k, ?_, q⟩)
  by_cases hj : ltS j i = true
  · exact ⟨t', by simp [hj]⟩
  · exact ⟨t, by simp [hj]⟩
theorem call_max2S (hc : X.calm = true) : CallR X (.builtin "max") (fun xs H Q => ∃ i j : Str, xs = [.str i, .str j] ∧ Q (.str (if ltS i j = true then j else i)) H) := by
  intro pins s σ H xs us Q I r h
  obtain ⟨i, j, rfl, q⟩ := h
  obtain ⟨u, w', rfl, ⟨t, rfl⟩, ⟨t', rfl⟩⟩ := vals2 r
  refine call_max_two (two_core (I.ok.hd hc) cmp_gt2 fun h' tk k => ⟨_, H, I.kept k, ?_, q⟩)
  by_cases hj : ltS i j = true
  · exact ⟨t', by simp [hj]⟩
  · exact ⟨t, by simp [hj]⟩
end
end Hx
/-! atoms that are drawn: plainly -/
namespace M21
open PySem PySem.Spec PyProof.Rows Hx
def dgS (i : Nat) : Str := (toString ((i : Nat) : Int) : Str)
def dg (i : Nat) : List Nat := (dgS i).cps.toList
def valD (l : List Nat) : Nat := l.foldl (fun a c => 10 * a + (c - 48)) 0
theorem dg_all : ∀ i : Fin 200, (dg i.val).all (fun c => decide (c ≠ 32)) = true ∧ 1 ≤ (dg i.val).length ∧ (dg i.val).length ≤ 3 ∧ (i.val < 100 → (dg i.val).length ≤ 2) ∧ (100 ≤ i.val → (dg i.val).length = 3) ∧ valD (dg i.val) = i.val := by decide +kernel
theorem dg_inj {i j : Nat} (hi : i < 200) (hj : j < 200) (h : dg i = dg j) : i = j := by
  have h1 : valD (dg i) = i := (dg_all ⟨i, hi⟩).2.2.2.2.2
  have h2 : valD (dg j) = j := (dg_all ⟨j, hj⟩).2.2.2.2.2
  rw [← h1, ← h2, h]
/-- a sign and a number -/
def mrk (c i : Nat) : Str := ⟨#[c]⟩ ++ dgS i
theorem mrk_cps (c i : Nat) : (mrk c i).cps.toList = c :: dg i := by
  show ((#[c] : Array Nat) ++ (dgS i).cps).toList = _
  simp [dg]
theorem mrk_size (c i : Nat) : (mrk c i).cps.size = 1 + (dg i).length := by
  have := congrArg List.length (mrk_cps c i)
  rw [Array.length_toList, List.length_cons] at this
  omega
theorem mrk_inj {c d i j : Nat} (hi : i < 200) (hj : j < 200) (h : mrk c i = mrk d j) : i = j := by
  have : (mrk c i).cps.toList = (mrk d j).cps.toList := by rw [h]
  rw [mrk_cps, mrk_cps] at this
  exact dg_inj hi hj (List.cons.inj this).2
def numS (z : Str) : List Nat := (z.cps.toList.drop 1).takeWhile fun c => decide (c ≠ 32)
def numA (d : PyData) : List Nat := match d with
  | .tuple [.str _, .str a] => numS a
  | .tuple [.str _, .str a, .str b] => if a.cps.size ≤ b.cps.size then numS a else numS b
  | .tuple [.str _, .str a, .str _, _] => numS a
  | _ => []
theorem tw_all {l : List Nat} (h : l.all (fun c => decide (c ≠ 32)) = true) (r : List Nat) : (l ++ 32 :: r).takeWhile (fun c => decide (c ≠ 32)) = l ∧ l.takeWhile (fun c => decide (c ≠ 32)) = l := by
  induction l with
  | nil => exact ⟨rfl, rfl⟩
  | cons x l ih =>
    rw [List.all_cons, Bool.and_eq_true] at h
    obtain ⟨h1, h2⟩ := ih h.2
    rw [List.cons_append, List.takeWhile_cons, List.takeWhile_cons, h.1, h1, h2]
    exact ⟨rfl, rfl⟩
theorem num_mrk {c i : Nat} (hi : i < 200) : numS (mrk c i) = dg i := by
  unfold numS
  rw [mrk_cps, List.drop_one, List.tail_cons]
  exact (tw_all (dg_all ⟨i, hi⟩).1 []).2
theorem num_and {c i : Nat} (hi : i < 200) (z : Str) : numS (mrk c i ++ Str.ofString " and " ++ z) = dg i := by
  unfold numS
  have e : (mrk c i ++ Str.ofString " and " ++ z).cps.toList = c :: (dg i ++ 32 :: ([97, 110, 100, 32] ++ z.cps.toList)) := by
    show (((mrk c i).cps ++ (Str.ofString " and ").cps) ++ z.cps).toList = _
    rw [Array.toList_append, Array.toList_append, mrk_cps, show (Str.ofString " and ").cps.toList = [32, 97, 110, 100, 32] by decide +kernel]
    simp
  rw [e, List.drop_one, List.tail_cons]
  exact (tw_all (dg_all ⟨i, hi⟩).1 _).1
def AtomN (i : Nat) (d : PyData) : Prop := atomD d = true ∧ numA d = dg i
abbrev truthD (z : Str) : PyData := .tuple [.str (Str.ofString "truth"), .str z]
theorem atom_truth (z : Str) : atomD (truthD z) = true := by rfl
theorem atom_inner (z : Str) : atomD (.tuple [.str (Str.ofString "inner"), .str z]) = true := by rfl
theorem atom_less (a b : Str) : atomD (.tuple [.str (Str.ofString "less"), .str a, .str b]) = true := by rfl
theorem atom_bound (a b : Str) (n : Int) (h : n < 0) : atomD (.tuple [.str (Str.ofString "bound"), .str a, .str b, .int n]) = true := by
  show decide (n < 0) = true
  exact decide_eq_true h
theorem atom_equal (a b : Str) (h : ltS b a = false) : atomD (.tuple [.str (Str.ofString "equal"), .str a, .str b]) = true := by
  show (!ltS b a) = true
  rw [h]; rfl
theorem ltS_asymm {a b : Str} (h : ltS a b = true) : ltS b a = false := by
  unfold ltS at h ⊢
  have h := of_decide_eq_true h
  exact decide_eq_false (List.lt_asymm h)
theorem ltS_irr (a : Str) : ltS a a = false := decide_eq_false (List.lt_irrefl _)
theorem an_truth {c i : Nat} (hi : i < 200) : AtomN i (truthD (mrk c i)) := ⟨atom_truth _, num_mrk hi⟩
theorem an_inner {c i : Nat} (hi : i < 200) (z : Str) : AtomN i (.tuple [.str (Str.ofString "inner"), .str (mrk c i ++ Str.ofString " and " ++ z)]) := ⟨atom_inner _, num_and hi z⟩
theorem mrk_le {c d i j : Nat} (hi : i < 100) (hj : 100 ≤ j) (hj2 : j < 200) : (mrk c i).cps.size ≤ (mrk d j).cps.size ∧ ¬ (mrk d j).cps.size ≤ (mrk c i).cps.size := by
  have h1 : (dg i).length ≤ 2 := (dg_all ⟨i, by omega⟩).2.2.2.1 hi
  have h2 : (dg j).length = 3 := (dg_all ⟨j, hj2⟩).2.2.2.2.1 hj
  rw [mrk_size, mrk_size]
  omega
theorem an_less {c d i j : Nat} (hi : i < 100) (hj : 100 ≤ j) (hj2 : j < 200) : AtomN i (.tuple [.str (Str.ofString "less"), .str (mrk c i), .str (mrk d j)]) := by
  refine ⟨atom_less _ _, ?_⟩
  show (if _ then _ else _) = _
  rw [if_pos (mrk_le hi hj hj2).1]
  exact num_mrk (by omega)
theorem an_bound {c i : Nat} (hi : i < 200) (b : Str) (n : Int) (h : n < 0) : AtomN i (.tuple [.str (Str.ofString "bound"), .str (mrk c i), .str b, .int n]) := ⟨atom_bound _ _ n h, num_mrk hi⟩
theorem an_equal {c d i j : Nat} (hi : i < 100) (hj : 100 ≤ j) (hj2 : j < 200) : AtomN i (.tuple [.str (Str.ofString "equal"), .str (if ltS (mrk d j) (mrk c i) = true then mrk d j else mrk c i), .str (if ltS (mrk c i) (mrk d j) = true then mrk d j else mrk c i)]) := by
  have hm := mrk_le (c := c) (d := d) hi hj hj2
  have key : ∀ a b : Str, ltS a b = false → ltS b a = false → a = b := fun a b h1 h2 => by
    have h1 := of_decide_eq_false h1
    have h2 := of_decide_eq_false h2
    have := List.le_antisymm (as := a.cps.toList) (bs := b.cps.toList) (List.not_lt.mp h2) (List.not_lt.mp h1)
    cases a; cases b
    simp only [Str.mk.injEq]
    exact Array.toList_inj.mp this
  cases h1 : ltS (mrk d j) (mrk c i) with
  | true =>
    have h2 := ltS_asymm h1
    rw [if_pos rfl, h2, if_neg (by decide)]
    refine ⟨atom_equal _ _ h2, ?_⟩
    show (if _ then _ else _) = _
    rw [if_neg hm.2]
    exact num_mrk (by omega)
  | false =>
    rw [if_neg (by decide)]
    cases h2 : ltS (mrk c i) (mrk d j) with
    | true =>
      rw [if_pos rfl]
      refine ⟨atom_equal _ _ h1, ?_⟩
      show (if _ then _ else _) = _
      rw [if_pos hm.1]
      exact num_mrk (by omega)
    | false =>
      have := key _ _ h2 h1
      rw [← this] at hm
      exact absurd (Nat.le_refl _) hm.2
/-- atoms of unlike numbers -/
def AtomsN (ds : List PyData) : Prop := ds.length ≤ 100 ∧ ∀ i d, ds[i]? = some d → AtomN i d
theorem AtomsN.at {ds : List PyData} (h : AtomsN ds) {d : PyData} (hd : d ∈ ds) : atomD d = true := by
  obtain ⟨i, hi⟩ := List.getElem?_of_mem hd
  exact (h.2 i d hi).1
theorem AtomsN.nodup {ds : List PyData} (h : AtomsN ds) : (ds.map nk).Nodup := by
  rw [List.Nodup, List.pairwise_map, List.pairwise_iff_getElem]
  intro i j hi hj hij e
  have h1 := h.2 i _ (List.getElem?_eq_getElem hi)
  have h2 := h.2 j _ (List.getElem?_eq_getElem hj)
  have := nk_atom h1.1 h2.1 e
  rw [this] at h1
  have := dg_inj (i := i) (j := j) (by have := h.1; omega) (by have := h.1; omega) (h1.2.symm.trans h2.2)
  omega
end M21
/-! rows by sorting: plainly -/
namespace M21
open PySem PySem.Spec PyProof.Rows Hx
theorem str_eq {a b : Str} (h : a.cps.toList = b.cps.toList) : a = b := PySem.W.str_of_cps h
theorem toks_lit {x y : PyData} (hx : litD x = true) (hy : litD y = true) (h : PySem.W.keyToks x = PySem.W.keyToks y) : x = y := by
  obtain ⟨a, b, rfl, ha⟩ := lit_shape hx
  obtain ⟨a', b', rfl, hb⟩ := lit_shape hy
  have bb : ∀ b b' : Bool, (if b = true then (1 : Int) else 0) = (if b' = true then 1 else 0) → b = b' := fun b b' => by cases b <;> cases b' <;> simp
  rcases atom_shape ha with ⟨k, z, rfl⟩ | ⟨k, z, u, rfl⟩ | ⟨k, z, u, n, rfl⟩ <;> rcases atom_shape hb with ⟨k', z', rfl⟩ | ⟨k', z', u', rfl⟩ | ⟨k', z', u', n', rfl⟩ <;>
    simp only [PySem.W.keyToks, PySem.W.keyToksAll, List.cons_append, List.nil_append, List.append_nil, List.cons.injEq, Sum.inl.injEq, Sum.inr.injEq, reduceCtorEq, and_true, true_and, false_and, and_false] at h
  all_goals first
    | (exfalso; omega)
    | (obtain ⟨h1, h2, h3⟩ := h; rw [str_eq h1, str_eq h2, bb _ _ h3])
    | (obtain ⟨h1, h2, h3, h4⟩ := h; rw [str_eq h1, str_eq h2, str_eq h3, bb _ _ h4])
    | (obtain ⟨h1, h2, h3, h4, h5⟩ := h; rw [str_eq h1, str_eq h2, str_eq h3, h4, bb _ _ h5])
theorem lt_tri {x y : PyData} (hx : litD x = true) (hy : litD y = true) (n : x ≠ y) (h : PySem.W.dataLt y x = false) : PySem.W.dataLt x y = true := by
  cases e : PySem.W.dataLt x y with
  | true => rfl
  | false => exact absurd (toks_lit hx hy (PyProof.Rows.lex_total _ _ e h)) n
abbrev leD2 : PyData → PyData → Bool := PySem.W.dataLe false id
theorem le_eq (a b : PyData) : leD2 a b = !PySem.W.dataLt b a := rfl
theorem lt_asymm {a b : PyData} (h : PySem.W.dataLt a b = true) : PySem.W.dataLt b a = false := by
  cases e : PySem.W.dataLt b a with
  | false => rfl
  | true =>
    have := PyProof.Rows.lex_trans _ _ _ h e
    have this : PySem.W.dataLt a a = true := this
    rw [PySem.W.dataLt_self] at this
    cases this
theorem le_pair (fs : List PyData) : (fs.mergeSort leD2).Pairwise fun a b => leD2 a b = true := List.pairwise_mergeSort (fun a b c h1 h2 => by
  rw [le_eq, Bool.not_eq_true'] at *
  cases e : PySem.W.dataLt c a with
  | false => rfl
  | true => rcases PyProof.Rows.lex_negTrans _ (PySem.W.keyToks b) _ e with h | h
            · rw [show PySem.W.dataLt c b = true from h] at h2; cases h2
            · rw [show PySem.W.dataLt b a = true from h] at h1; cases h1) (fun a b => by
  rw [le_eq, le_eq]
  cases e : PySem.W.dataLt b a with
  | false => rfl
  | true => rw [lt_asymm e]; rfl) fs
theorem asc_of_pair : ∀ {ds : List PyData}, ds.Pairwise (fun a b => PySem.W.dataLt a b = true) → ascD ds = true
  | [], _ => rfl
  | [x], _ => rfl
  | x :: y :: r, h => by
    rw [ascD, Bool.and_eq_true]
    exact ⟨(List.pairwise_cons.mp h).1 y (List.mem_cons_self ..), asc_of_pair (List.pairwise_cons.mp h).2⟩
/-- what sorted gives of unlike literals is a row -/
theorem row_sort {fs : List PyData} (hl : ∀ x ∈ fs, litD x = true) (nd : fs.Nodup) : rowD (.tuple (fs.mergeSort leD2)) = true := by
  have pm := List.mergeSort_perm fs leD2
  show ((fs.mergeSort leD2).all litD && ascD _) = true
  rw [Bool.and_eq_true, List.all_eq_true]
  have hl' : ∀ x ∈ fs.mergeSort leD2, litD x = true := fun x hx => hl x (pm.mem_iff.mp hx)
  refine ⟨hl', asc_of_pair ?_⟩
  have h1 := le_pair fs
  have h2 : (fs.mergeSort leD2).Nodup := pm.nodup_iff.mpr nd
  have h3 := List.Pairwise.and h1 h2
  refine List.Pairwise.imp_of_mem (fun {a b} ha hb h => ?_) h3
  obtain ⟨h4, h5⟩ := h
  rw [le_eq, Bool.not_eq_true'] at h4
  exact lt_tri (hl' a ha) (hl' b hb) h5 h4
theorem lits_alike {fs : List PyData} (hl : ∀ x ∈ fs, litD x = true) : PySem.W.AllAlike fs := fun d hd d' hd' => alike_lit (hl d hd) (hl d' hd')
theorem lits_sortable {fs : List PyData} (hl : ∀ x ∈ fs, litD x = true) : PySem.W.Sortable fs := .inl fun d hd => by
  obtain ⟨a, b, rfl, _⟩ := lit_shape (hl d hd)
  exact ⟨_, _, rfl⟩
theorem lits_keys {fs : List PyData} (hl : ∀ x ∈ fs, litD x = true) : keysD fs = true := keysD_iff.mpr fun x hx => (lit_key (hl x hx)).1
theorem lits_depth {fs : List PyData} (hl : ∀ x ∈ fs, litD x = true) : ∀ x ∈ fs, x.depth ≤ 8 := fun x hx => by have := (lit_key (hl x hx)).2.1; omega
theorem any_eqv {fs : List PyData} {d : PyData} (hl : ∀ x ∈ fs, litD x = true) (hd : litD d = true) : (fs.any fun e => PyData.eqv e d) = true ↔ d ∈ fs := by
  rw [List.any_eq_true]
  constructor
  · rintro ⟨x, hx, e⟩
    rw [← (eqv_lit (hl x hx) hd).mp e]; exact hx
  · intro h
    exact ⟨d, h, (eqv_lit hd hd).mpr rfl⟩
theorem lit_mk {a : PyData} {b : Bool} (h : atomD a = true) : litD (.tuple [a, .bool b]) = true := by simp [litD, isT, h]

end M21
namespace K21
open PySem PySem.Spec PyProof.Rows L2 Hx Hd
open Evl (pss_cut tCut ex_l ex_t)
open M21
theorem dlen2 (n : Nat) : decide (V.int (((n + 2 : Nat)) : Int) = V.int 2) = decide (n + 2 = 2) := by
  rw [Bool.eq_iff_iff]; simp; omega
theorem dlen3 (n : Nat) : decide (V.int (((n + 2 : Nat)) : Int) = V.int 3) = decide (n + 2 = 3) := by
  rw [Bool.eq_iff_iff]; simp; omega
section
variable {P : Program} {w : World} {K : PySem.W.Frag} {mg : Str → Option Value} {base : Heap}
def spJ (f : PyData → Bool) : Sp := fun vs H Q _ => ∃ x d, vs = [x] ∧ Dt H x d ∧ ∀ H2, Ex H H2 → Q (.bl (f d)) H2
abbrev Nis_step : List Str := ["value"]
theorem scis_step : FnScope Nis_step ["value"] (defScope (top 17)) := ⟨rfl, rfl, rfl, by decide +kernel, rfl, by decide +kernel, by decide +kernel⟩
theorem ok_step (T : Txt K mg) : Cal P w K mg base CX0 1 "is_step" ["value"] (spJ stepD) := by
  refine mkCal T.g_is_step T.d_is_step scis_step (fun _ _ _ _ _ _ us hl => match us, hl with | [_], _ => rfl) (fun vs H Q E h => ?_) fun cdv A outer s H vs Q E hr h => ?_
  · obtain ⟨x, d, rfl, _⟩ := h; rfl
  obtain ⟨x, d, rfl, hd, q⟩ := h
  refine ⟨_, (pss_one (ps_ret (pe_and (pe_callB (isiR (K := K)) (by rfl) T.n_isinstance (by decide +kernel) (pa_cons (pv 0) (pa_cons (pe_bltn (v := .ty "int") rfl T.n_int (by decide +kernel) rfl) pa_nil))) (pe_and (pe_not (pe_callB (isiR (K := K)) (by rfl) T.n_isinstance (by decide +kernel) (pa_cons (pv 0) (pa_cons (pe_bltn (v := .ty "bool") rfl T.n_bool (by decide +kernel) rfl) pa_nil)))) (pe_one (pe_cmpR op_lt (pv 0) pe_int (nomark _))))))), ?_⟩
  replace q := q H (Evl.Ex.refl H)
  refine ⟨_, rfl, x, _, _, _, _, rfl, .ty "int", ty_dt hd, kit_ty (kit_int d), _, rfl, ?_⟩
  refine ite2 (fun h1 => ⟨_, rfl, x, _, _, _, _, rfl, .ty "bool", ty_dt hd, kit_ty (kit_bool d), _, rfl, _, rfl, ?_⟩) fun h1 => ?_
  · refine ite2 (fun h2 => ?_) fun h2 => ?_
    · obtain ⟨n, rfl⟩ : ∃ n, d = .int n := by cases d <;> first | exact ⟨_, rfl⟩ | (exfalso; revert h1 h2; simp [isT])
      cases hd
      exact ⟨_, rfl, n, 0, rfl, rfl, q⟩
    · have e : stepD d = false := by cases d <;> first | rfl | (exfalso; revert h1 h2; simp [isT])
      show Q (.bl false) H
      rw [e] at q; exact q
  · have e : stepD d = false := by cases d <;> first | rfl | (exfalso; revert h1; simp [isT])
    show Q (.bl false) H
    rw [e] at q; exact q
abbrev Nis_atom : List Str := ["value", "text", "kind"]
theorem scis_atom : FnScope Nis_atom ["value"] (defScope (top 18)) := ⟨rfl, rfl, rfl, by decide +kernel, rfl, by decide +kernel, by decide +kernel⟩
theorem ok_atom (T : Txt K mg) (C_is_step : Cal P w K mg base CX0 1 "is_step" ["value"] (spJ stepD)) : Cal P w K mg base CX0 2 "is_atom" ["value"] (spJ atomD) := by
  refine mkCal T.g_is_atom T.d_is_atom scis_atom (fun _ _ _ _ _ _ us hl => match us, hl with | [_], _ => rfl) (fun vs H Q E h => ?_) fun cdv A outer s H vs Q E hr h => ?_
  · obtain ⟨x, d, rfl, _⟩ := h; rfl
  obtain ⟨x, d, rfl, hd, q⟩ := h
  refine ⟨_, (pss_cut (ps_if (PW.pt (pw_or (pt_not (pt_val (pe_callB (isiR (K := K)) (by rfl) T.n_isinstance (by decide +kernel) (pa_cons (pv 0) (pa_cons (pe_bltn (v := .ty "tuple") rfl T.n_tuple (by decide +kernel) rfl) pa_nil))))) (pw_or1 (pt_cmpR op_lt (pe_callB (lenL (K := K)) (by rfl) T.n_len PySem.boot_len (pa_cons (pv 0) pa_nil)) pe_int (nomark _))))) (pss_one (ps_ret pe_bl)) pss_nil)
      (pss_cut (ps_for PassesOwn.never rfl (piT (K := K) (pe_slice (slA (K := K)) (pv 0) po_none (po_some pe_int))) (pg_name (i := 1) scis_atom.nd rfl (Or.inl rfl)) (pss_one (ps_if (pt_not (pt_val (pe_callB (isiR (K := K)) (by rfl) T.n_isinstance (by decide +kernel) (pa_cons (pv 1) (pa_cons (pe_bltn (v := .ty "str") rfl T.n_str (by decide +kernel) rfl) pa_nil))))) (pss_one (ps_ret pe_bl)) pss_nil)))
      (pss_cons (ps_set (i := 2) scis_atom.nd rfl (Or.inl rfl) (pe_ix (ixT (K := K)) (pv 0) pe_int (fun _ _ => rfl)))
      (pss_cut (ps_if (PW.pt (pw_or (pt_cmpR op_eq (pv 2) pe_str (nomark _)) (pw_or1 (pt_cmpR op_eq (pv 2) pe_str (nomark _))))) (pss_one (ps_ret (pe_cmpR op_eq (pe_callB (lenL (K := K)) (by rfl) T.n_len PySem.boot_len (pa_cons (pv 0) pa_nil)) pe_int (nomark _)))) pss_nil)
      (pss_cons (ps_if (pt_cmpR op_eq (pv 2) pe_str (nomark _)) (pss_one (ps_ret (pe_and (pe_cmpR op_eq (pe_callB (lenL (K := K)) (by rfl) T.n_len PySem.boot_len (pa_cons (pv 0) pa_nil)) pe_int (nomark _)) (pe_one (pe_cmpR op_le_str (pe_ix (ixT (K := K)) (pv 0) pe_int (fun _ _ => rfl)) (pe_ix (ixT (K := K)) (pv 0) pe_int (fun _ _ => rfl)) (by first | exact nomark _ | rfl)))))) pss_nil)
      (pss_cons (ps_if (pt_cmpR op_eq (pv 2) pe_str (nomark _)) (pss_one (ps_ret (pe_cmpR op_eq (pe_callB (lenL (K := K)) (by rfl) T.n_len PySem.boot_len (pa_cons (pv 0) pa_nil)) pe_int (nomark _)))) pss_nil)
      (pss_one (ps_ret (pe_and (pe_cmpR op_eq (pv 2) pe_str (nomark _)) (pe_and (pe_cmpR op_eq (pe_callB (lenL (K := K)) (by rfl) T.n_len PySem.boot_len (pa_cons (pv 0) pa_nil)) pe_int (nomark _)) (pe_one (pe_cal (E := E0) C_is_step (hr.mono (by decide)) pass0 (pa_cons (pe_ix (ixT (K := K)) (pv 0) pe_int (fun _ _ => rfl)) pa_nil))))))))))))), ?_⟩
  refine ⟨fun σ' H' => (∃ ds, d = .tuple ds ∧ 2 ≤ ds.length) ∧ σ' = [some x, none, none] ∧ H = H', ?_, ?_⟩
  · refine ⟨_, rfl, x, _, _, _, _, rfl, .ty "tuple", ty_dt hd, kit_ty (kit_tup d), _, rfl, ?_⟩
    cases h1 : isT "tuple" d with
    | false =>
      have e : atomD d = false := by cases d <;> first | rfl | (exfalso; revert h1; simp [isT])
      rw [e] at q
      exact q _ (Evl.Ex.refl _)
    | true =>
      obtain ⟨ds, rfl⟩ := isT_tup h1
      obtain ⟨a, xs, rfl, hs, ha⟩ := dt_tup hd
      have hl := dta_len ha
      refine ⟨_, rfl, a, xs, rfl, .inr (SqT.of hs), _, 2, rfl, rfl, _, rfl, ?_⟩
      refine ite2 (fun h2 => ?_) fun h2 => ?_
      · have h2 := of_decide_eq_true h2
        have e : atomD (.tuple ds) = false := by
          show (decide (2 ≤ ds.length) && _) = false
          rw [decide_eq_false (by omega)]; rfl
        rw [e] at q; exact q _ (Evl.Ex.refl _)
      · have h2 : ¬ ((xs.length : Int) < 2) := fun z => h2 (decide_eq_true z)
        exact ⟨⟨ds, rfl, by omega⟩, rfl, rfl⟩
  rintro σ' H' ⟨⟨ds, rfl, h2⟩, rfl, rfl⟩
  obtain ⟨a, xs, rfl, hs, ha⟩ := dt_tup hd
  have hl := dta_len ha
  refine ⟨fun σ' H' => ∃ v, σ' = [some (.ref a), v, none] ∧ Ex H H' ∧ ∀ e ∈ ds.take 3, isT "str" e = true, ?_, ?_⟩
  · refine ⟨_, rfl, 3, rfl, a, xs, rfl, SqT.of hs, fun hw => ?_, fun hw p hp => ?_⟩
    · have H1e : xs.take 3 = xs := by
        have h3 : (HT.sIx xs.length xs.length (some ((3 : Nat) : Int))) = xs.length := hw.2
        rw [HT.sIx_nat] at h3
        exact List.take_of_length_le (by omega)
      have HP : H a = some (.tup (xs.take 3)) := by rw [H1e]; exact hs
      have e1 := Evl.Ex.refl H
      refine ⟨a, rfl, ⟨xs.take 3, SqT.of HP⟩, ?_⟩
      refine for_it walk_tup (fun i σ' H' => ∃ v, σ' = [some (.ref a), v, none] ∧ Ex H H' ∧ ∀ j, j < i → ∀ e, (ds.take 3)[j]? = some e → isT "str" e = true) ⟨none, rfl, Evl.Ex.refl _, fun j hj => (by omega)⟩ (fun i σ' H' hi ⟨_, _, e, _⟩ => SqT.of (e _ _ HP)) ?_ ?_
      · rintro i v σ' H' H2 hi ⟨v0, rfl, e2, hall⟩ ⟨rfl, hv⟩
        rw [List.getElem?_take] at hv
        split at hv
        · rename_i hi3
          obtain ⟨di, hdi, hti⟩ := dta_get ha hv
          refine ⟨_, rfl, v, _, _, _, _, rfl, .ty "str", ty_dt (ex_dt (e1.trans e2) _ _ hti), kit_ty (kit_str di), _, rfl, ?_⟩
          cases h3 : isT "str" di with
          | false =>
            refine ite2 (fun _ => ?_) (fun z => absurd rfl z)
            have e : atomD (.tuple ds) = false := by
              show (decide (2 ≤ ds.length) && ((ds.take 3).all (isT "str") && atomK ds)) = false
              have : (ds.take 3).all (isT "str") = false := by
                apply Bool.eq_false_iff.mpr
                intro z
                rw [List.all_eq_true] at z
                have := z di (List.mem_of_getElem? (i := i) (by rw [List.getElem?_take, if_pos hi3]; exact hdi))
                rw [h3] at this; cases this
              rw [this]; simp
            rw [e] at q
            exact q _ (e1.trans e2)
          | true =>
            refine ite2 (fun z => absurd z (by decide)) (fun _ => ⟨_, rfl, e2, fun j hj e he => ?_⟩)
            by_cases hji : j = i
            · subst hji
              rw [List.getElem?_take, if_pos hi3, hdi] at he
              cases he; exact h3
            · exact hall j (by omega) e he
        · cases hv
      · rintro σ' H2 ⟨v0, rfl, e2, hall⟩
        exact ⟨v0, rfl, e1.trans e2, fun e he => by obtain ⟨j, hj⟩ := List.getElem?_of_mem he; have hlj := (List.getElem?_eq_some_iff.mp hj).1; exact hall j (by rw [List.length_take] at hlj ⊢; omega) e hj⟩
    · have HP : upd H p (.tup (cutV xs none (some 3))) p = some (.tup (xs.take 3)) := by
        rw [upd_same]
        have : cutV xs none (some ((3 : Nat) : Int)) = xs.take 3 := by
          unfold cutV
          rw [HT.sIx_none, HT.sIx_nat, List.drop_zero, Nat.sub_zero]
          by_cases h : 3 ≤ xs.length
          · rw [Nat.min_eq_left h]
          · rw [Nat.min_eq_right (by omega), List.take_of_length_le (Nat.le_refl _), List.take_of_length_le (by omega)]
        exact congrArg (fun z => some (HO.tup z)) this
      have e1 := Evl.Ex.new hp (o := .tup (cutV xs none (some 3)))
      generalize upd H p (.tup (cutV xs none (some 3))) = H1 at HP e1
      refine ⟨p, rfl, ⟨xs.take 3, SqT.of HP⟩, ?_⟩
      refine for_it walk_tup (fun i σ' H' => ∃ v, σ' = [some (.ref a), v, none] ∧ Ex H1 H' ∧ ∀ j, j < i → ∀ e, (ds.take 3)[j]? = some e → isT "str" e = true) ⟨none, rfl, Evl.Ex.refl _, fun j hj => (by omega)⟩ (fun i σ' H' hi ⟨_, _, e, _⟩ => SqT.of (e _ _ HP)) ?_ ?_
      · rintro i v σ' H' H2 hi ⟨v0, rfl, e2, hall⟩ ⟨rfl, hv⟩
        rw [List.getElem?_take] at hv
        split at hv
        · rename_i hi3
          obtain ⟨di, hdi, hti⟩ := dta_get ha hv
          refine ⟨_, rfl, v, _, _, _, _, rfl, .ty "str", ty_dt (ex_dt (e1.trans e2) _ _ hti), kit_ty (kit_str di), _, rfl, ?_⟩
          cases h3 : isT "str" di with
          | false =>
            refine ite2 (fun _ => ?_) (fun z => absurd rfl z)
            have e : atomD (.tuple ds) = false := by
              show (decide (2 ≤ ds.length) && ((ds.take 3).all (isT "str") && atomK ds)) = false
              have : (ds.take 3).all (isT "str") = false := by
                apply Bool.eq_false_iff.mpr
                intro z
                rw [List.all_eq_true] at z
                have := z di (List.mem_of_getElem? (i := i) (by rw [List.getElem?_take, if_pos hi3]; exact hdi))
                rw [h3] at this; cases this
              rw [this]; simp
            rw [e] at q
            exact q _ (e1.trans e2)
          | true =>
            refine ite2 (fun z => absurd z (by decide)) (fun _ => ⟨_, rfl, e2, fun j hj e he => ?_⟩)
            by_cases hji : j = i
            · subst hji
              rw [List.getElem?_take, if_pos hi3, hdi] at he
              cases he; exact h3
            · exact hall j (by omega) e he
        · cases hv
      · rintro σ' H2 ⟨v0, rfl, e2, hall⟩
        exact ⟨v0, rfl, e1.trans e2, fun e he => by obtain ⟨j, hj⟩ := List.getElem?_of_mem he; have hlj := (List.getElem?_eq_some_iff.mp hj).1; exact hall j (by rw [List.length_take] at hlj ⊢; omega) e hj⟩
  rintro σ' H1 ⟨v0, rfl, e1, hall⟩
  obtain ⟨k, y, r, rfl⟩ : ∃ k y r, ds = .str k :: .str y :: r := by
    match ds, h2 with
    | a :: b :: r, _ =>
      obtain ⟨z1, rfl⟩ := isT_str' (hall a (by simp [List.take]))
      obtain ⟨z2, rfl⟩ := isT_str' (hall b (by simp [List.take]))
      exact ⟨z1, z2, r, rfl⟩
  have haD : atomD (.tuple (.str k :: .str y :: r)) = atomK (.str k :: .str y :: r) := by
    show (decide (2 ≤ (PyData.str k :: PyData.str y :: r).length) && (((PyData.str k :: PyData.str y :: r).take 3).all (isT "str") && atomK (PyData.str k :: PyData.str y :: r))) = _
    rw [decide_eq_true h2, List.all_eq_true.mpr hall]; rfl
  rw [haD] at q
  clear haD
  cases ha with
  | cons g1 ha =>
  cases g1
  cases ha with
  | cons g2 ha =>
  cases g2
  rename_i xr
  have hs1 := e1 _ _ hs
  have eT : ∀ z : Str, k = z → V.bl (decide (V.str k = V.str z)) = V.bl true := fun z e => by rw [e]; simp
  have eF : ∀ z : Str, k ≠ z → V.bl (decide (V.str k = V.str z)) = V.bl false := fun z e => by simp [e]
  have hl' : (V.str k :: V.str y :: xr).length = r.length + 2 := by rw [hl]; rfl
  refine ⟨_, rfl, a, _, 0, _, rfl, rfl, SqT.of hs1, at_nat (i := 0) rfl, ?_⟩
  refine ⟨fun σ' H' => σ' = [some (.ref a), v0, some (.str k)] ∧ H1 = H' ∧ k ≠ Str.ofString "truth" ∧ k ≠ Str.ofString "inner", ?_, ?_⟩
  · have fin : k = Str.ofString "truth" ∨ k = Str.ofString "inner" → Q (.bl (decide (V.int (((V.str k :: V.str y :: xr).length : Nat) : Int) = V.int 2))) H1 := fun hk => by
      have e : atomK (.str k :: .str y :: r) = decide (V.int (((V.str k :: V.str y :: xr).length : Nat) : Int) = V.int 2) := by
        unfold atomK
        have hkk : kindD (PyData.str k :: PyData.str y :: r) = Str.ofString "truth" ∨ kindD (PyData.str k :: PyData.str y :: r) = Str.ofString "inner" := hk
        rw [if_pos hkk, hl', dlen2]
        rfl
      rw [← e]; exact q _ e1
    by_cases k1 : k = Str.ofString "truth"
    · refine ⟨_, rfl, rfl, true, eT _ k1, ?_⟩
      refine ite2 (fun _ => ?_) (fun z => absurd rfl z)
      refine ite2 (fun _ => ?_) (fun z => absurd rfl z)
      exact ⟨_, rfl, a, _, rfl, .inr (SqT.of hs1), rfl, fin (.inl k1)⟩
    · refine ⟨_, rfl, rfl, false, eF _ k1, ?_⟩
      refine ite2 (fun z => absurd z (by decide)) (fun _ => ?_)
      by_cases k2 : k = Str.ofString "inner"
      · refine ⟨_, rfl, rfl, true, eT _ k2, ?_⟩
        refine ite2 (fun _ => ?_) (fun z => absurd rfl z)
        exact ⟨_, rfl, a, _, rfl, .inr (SqT.of hs1), rfl, fin (.inr k2)⟩
      · refine ⟨_, rfl, rfl, false, eF _ k2, ?_⟩
        refine ite2 (fun z => absurd z (by decide)) (fun _ => ⟨rfl, rfl, k1, k2⟩)
  rintro σ' H2 ⟨rfl, rfl, k1, k2⟩
  have hno : ¬ (kindD (PyData.str k :: PyData.str y :: r) = Str.ofString "truth" ∨ kindD (PyData.str k :: PyData.str y :: r) = Str.ofString "inner") := fun z => z.elim k1 k2
  by_cases k3 : k = Str.ofString "equal"
  · refine ⟨_, rfl, rfl, true, eT _ k3, ?_⟩
    refine ite2 (fun _ => ?_) (fun z => absurd rfl z)
    refine ⟨_, rfl, a, _, rfl, .inr (SqT.of hs1), rfl, _, rfl, ?_⟩
    have e : atomK (.str k :: .str y :: r) = (decide ((PyData.str k :: PyData.str y :: r).length = 3) && leD (.str y) ((PyData.str k :: PyData.str y :: r).getD 2 .none)) := by
      unfold atomK
      rw [if_neg hno, if_pos (show kindD (PyData.str k :: PyData.str y :: r) = _ from k3)]
      rfl
    rw [e] at q
    refine ite2 (fun h3 => ?_) (fun h3 => ?_)
    · have h3 := of_decide_eq_true h3
      have h3 : (V.str k :: V.str y :: xr).length = 3 := by injection h3 with h3; omega
      match r, xr, ha, (show r.length = 1 by omega) with
      | [r1], _, .cons g3 .nil, _ =>
        obtain ⟨z, rfl⟩ := isT_str' (hall r1 (by simp [List.take]))
        cases g3
        refine ⟨_, rfl, a, _, 1, _, rfl, rfl, SqT.of hs1, rfl, _, rfl, a, _, 2, _, rfl, rfl, SqT.of hs1, rfl, y, z, rfl, rfl, ?_⟩
        have := q _ e1
        rw [show decide ((PyData.str k :: PyData.str y :: [PyData.str z]).length = 3) = true from rfl, Bool.true_and] at this
        exact this
    · have h3 : ¬ (PyData.str k :: PyData.str y :: r).length = 3 := fun z => by
        rw [← hl] at z
        exact h3 (decide_eq_true (by rw [z]; rfl))
      rw [decide_eq_false h3, Bool.false_and] at q
      exact q _ e1
  refine ⟨_, rfl, rfl, false, eF _ k3, ?_⟩
  refine ite2 (fun z => absurd z (by decide)) (fun _ => ?_)
  have hno3 : ¬ kindD (PyData.str k :: PyData.str y :: r) = Str.ofString "equal" := k3
  by_cases k4 : k = Str.ofString "less"
  · refine ⟨_, rfl, rfl, true, eT _ k4, ?_⟩
    refine ite2 (fun _ => ?_) (fun z => absurd rfl z)
    refine ⟨_, rfl, a, _, rfl, .inr (SqT.of hs1), rfl, ?_⟩
    have e : atomK (.str k :: .str y :: r) = decide (V.int (((V.str k :: V.str y :: xr).length : Nat) : Int) = V.int 3) := by
      unfold atomK
      rw [if_neg hno, if_neg hno3, if_pos (show kindD (PyData.str k :: PyData.str y :: r) = _ from k4), hl', dlen3]
      rfl
    show Q (.bl (decide (V.int (((V.str k :: V.str y :: xr).length : Nat) : Int) = V.int 3))) H1
    rw [← e]; exact q _ e1
  refine ⟨_, rfl, rfl, false, eF _ k4, ?_⟩
  refine ite2 (fun z => absurd z (by decide)) (fun _ => ?_)
  have hno4 : ¬ kindD (PyData.str k :: PyData.str y :: r) = Str.ofString "less" := k4
  have e : atomK (.str k :: .str y :: r) = (decide (k = Str.ofString "bound") && (decide ((PyData.str k :: PyData.str y :: r).length = 4) && stepD ((PyData.str k :: PyData.str y :: r).getD 3 .none))) := by
    unfold atomK
    rw [if_neg hno, if_neg hno3, if_neg hno4]
    rfl
  rw [e] at q
  by_cases k5 : k = Str.ofString "bound"
  · refine ⟨_, rfl, rfl, true, eT _ k5, ?_⟩
    refine ite2 (fun _ => ?_) (fun z => absurd rfl z)
    rw [decide_eq_true k5, Bool.true_and] at q
    refine ⟨_, rfl, a, _, rfl, .inr (SqT.of hs1), rfl, _, rfl, ?_⟩
    refine ite2 (fun h4 => ?_) (fun h4 => ?_)
    · have h4 := of_decide_eq_true h4
      have h4 : (V.str k :: V.str y :: xr).length = 4 := by injection h4 with h4; omega
      match r, xr, ha, (show r.length = 2 by omega) with
      | [r1, r2], _, .cons (v := w1) g3 (.cons (v := w2) g4 .nil), _ =>
        refine ⟨_, rfl, a, _, 3, _, rfl, rfl, SqT.of hs1, rfl, w2, r2, rfl, ex_dt e1 _ _ g4, fun H3 e3 => ?_⟩
        have := q _ (e1.trans e3)
        rw [show decide ((PyData.str k :: PyData.str y :: [r1, r2]).length = 4) = true from rfl, Bool.true_and] at this
        exact this
    · have h4 : ¬ (PyData.str k :: PyData.str y :: r).length = 4 := fun z => by
        rw [← hl] at z
        exact h4 (decide_eq_true (by rw [z]; rfl))
      rw [decide_eq_false h4, Bool.false_and] at q
      exact q _ e1
  · refine ⟨_, rfl, rfl, false, eF _ k5, ?_⟩
    refine ite2 (fun z => absurd z (by decide)) (fun _ => ?_)
    rw [decide_eq_false k5, Bool.false_and] at q
    exact q _ e1
abbrev Nis_literal_form : List Str := ["value"]
theorem scis_literal_form : FnScope Nis_literal_form ["value"] (defScope (top 19)) := ⟨rfl, rfl, rfl, by decide +kernel, rfl, by decide +kernel, by decide +kernel⟩
theorem ok_lit (T : Txt K mg) (C_is_atom : Cal P w K mg base CX0 2 "is_atom" ["value"] (spJ atomD)) : Cal P w K mg base CX0 3 "is_literal_form" ["value"] (spJ litD) := by
  refine mkCal T.g_is_literal_form T.d_is_literal_form scis_literal_form (fun _ _ _ _ _ _ us hl => match us, hl with | [_], _ => rfl) (fun vs H Q E h => ?_) fun cdv A outer s H vs Q E hr h => ?_
  · obtain ⟨x, d, rfl, _⟩ := h; rfl
  obtain ⟨x, d, rfl, hd, q⟩ := h
  refine ⟨_, (pss_cut (ps_if (PW.pt (pw_or (pt_not (pt_val (pe_callB (isiR (K := K)) (by rfl) T.n_isinstance (by decide +kernel) (pa_cons (pv 0) (pa_cons (pe_bltn (v := .ty "tuple") rfl T.n_tuple (by decide +kernel) rfl) pa_nil))))) (pw_or1 (pt_cmpR op_ne (pe_callB (lenL (K := K)) (by rfl) T.n_len PySem.boot_len (pa_cons (pv 0) pa_nil)) pe_int (nomark _))))) (pss_one (ps_ret pe_bl)) pss_nil)
      (pss_one (ps_ret (pe_and (pe_callB (isiR (K := K)) (by rfl) T.n_isinstance (by decide +kernel) (pa_cons (pe_ix (ixT (K := K)) (pv 0) pe_int (fun _ _ => rfl)) (pa_cons (pe_bltn (v := .ty "bool") rfl T.n_bool (by decide +kernel) rfl) pa_nil))) (pe_one (pe_cal (E := E0) C_is_atom (hr.mono (by decide)) pass0 (pa_cons (pe_ix (ixT (K := K)) (pv 0) pe_int (fun _ _ => rfl)) pa_nil))))))), ?_⟩
  refine ⟨fun σ' H' => (∃ d1 d2, d = .tuple [d1, d2]) ∧ σ' = [some x] ∧ H = H', ?_, ?_⟩
  · refine ⟨_, rfl, x, _, _, _, _, rfl, .ty "tuple", ty_dt hd, kit_ty (kit_tup d), _, rfl, ?_⟩
    cases h1 : isT "tuple" d with
    | false =>
      have e : litD d = false := by cases d <;> first | rfl | (exfalso; revert h1; simp [isT])
      rw [e] at q
      exact q _ (Evl.Ex.refl _)
    | true =>
      obtain ⟨ds, rfl⟩ := isT_tup h1
      obtain ⟨a, xs, rfl, hs, ha⟩ := dt_tup hd
      have hl := dta_len ha
      refine ⟨_, rfl, a, xs, rfl, .inr (SqT.of hs), rfl, _, rfl, ?_⟩
      by_cases h2 : xs.length = 2
      · refine ite2 (fun z => absurd z ?_) (fun _ => ?_)
        · rw [h2]; decide
        · match ds, (show ds.length = 2 by omega) with
          | [d1, d2], _ => exact ⟨⟨d1, d2, rfl⟩, rfl, rfl⟩
      · have e : litD (.tuple ds) = false := by
          unfold litD
          split
          · rename_i h; cases h; exact absurd hl h2
          · rfl
        rw [e] at q
        refine ite2 (fun _ => q _ (Evl.Ex.refl _)) (fun z => absurd ?_ z)
        show (!decide (V.int xs.length = V.int 2)) = true
        rw [decide_eq_false fun z => h2 (by injection z with z; omega)]; rfl
  rintro σ' H' ⟨⟨d1, d2, rfl⟩, rfl, rfl⟩
  obtain ⟨a, xs, rfl, hs, ha⟩ := dt_tup hd
  cases ha with
  | cons g1 ha =>
  cases ha with
  | cons g2 ha =>
  cases ha
  refine ⟨_, rfl, a, _, 1, _, rfl, rfl, SqT.of hs, rfl, _, _, _, _, _, rfl, .ty "bool", ty_dt g2, kit_ty (kit_bool d2), _, rfl, ?_⟩
  have e : litD (.tuple [d1, d2]) = (isT "bool" d2 && atomD d1) := rfl
  rw [e] at q
  refine ite2 (fun h2 => ?_) (fun h2 => ?_)
  · rw [h2, Bool.true_and] at q
    exact ⟨_, rfl, a, _, 0, _, rfl, rfl, SqT.of hs, rfl, _, d1, rfl, g1, q⟩
  · have h2 : isT "bool" d2 = false := Bool.eq_false_iff.mpr h2
    rw [h2, Bool.false_and] at q
    exact q _ (Evl.Ex.refl _)
def spDen : Sp := fun vs H Q _ => ∃ r x b, vs = [.ref r] ∧ H r = some (.tup [x, .bl b]) ∧ ∀ p, H p = none → Q (.ref p) (upd H p (.tup [x, .bl (!b)]))
abbrev Ndenied : List Str := ["literal"]
theorem scdenied : FnScope Ndenied ["literal"] (defScope (top 20)) := ⟨rfl, rfl, rfl, by decide +kernel, rfl, by decide +kernel, by decide +kernel⟩
theorem ok_den (T : Txt K mg) : Cal P w K mg base CX0 1 "denied" ["literal"] spDen := by
  refine mkCal T.g_denied T.d_denied scdenied (fun _ _ _ _ _ _ us hl => match us, hl with | [_], _ => rfl) (fun vs H Q E h => ?_) fun cdv A outer s H vs Q E hr h => ?_
  · obtain ⟨x, _, _, rfl, _⟩ := h; rfl
  obtain ⟨r, x, b, rfl, hr1, q⟩ := h
  refine ⟨_, (pss_one (ps_ret (pe_tup (pa_cons (pe_ix (ixT (K := K)) (pv 0) pe_int (fun _ _ => rfl)) (pa_cons (pe_not (pe_ix (ixT (K := K)) (pv 0) pe_int (fun _ _ => rfl))) pa_nil))))), ?_⟩
  exact ⟨_, rfl, r, _, 0, _, rfl, rfl, SqT.of hr1, rfl, _, rfl, r, _, 1, _, rfl, rfl, SqT.of hr1, rfl, b, rfl, szl 2 (by omega), q⟩
abbrev Nis_row : List Str := ["value", "last", "literal"]
theorem scis_row : FnScope Nis_row ["value"] (defScope (top 21)) := ⟨rfl, rfl, rfl, by decide +kernel, rfl, by decide +kernel, by decide +kernel⟩
theorem ok_rowf (T : Txt K mg) (C_is_literal_form : Cal P w K mg base CX0 3 "is_literal_form" ["value"] (spJ litD)) : Cal P w K mg base CX0 4 "is_row" ["value"] (spJ rowD) := by
  refine mkCal T.g_is_row T.d_is_row scis_row (fun _ _ _ _ _ _ us hl => match us, hl with | [_], _ => rfl) (fun vs H Q E h => ?_) fun cdv A outer s H vs Q E hr h => ?_
  · obtain ⟨x, d, rfl, _⟩ := h; rfl
  obtain ⟨x, d, rfl, hd, q⟩ := h
  refine ⟨_, (pss_cons (ps_if (pt_not (pt_val (pe_callB (isiR (K := K)) (by rfl) T.n_isinstance (by decide +kernel) (pa_cons (pv 0) (pa_cons (pe_bltn (v := .ty "tuple") rfl T.n_tuple (by decide +kernel) rfl) pa_nil))))) (pss_one (ps_ret pe_bl)) pss_nil)
      (pss_cons (ps_set (i := 1) scis_row.nd rfl (Or.inl rfl) pe_non)
      (pss_cons (ps_for PassesOwn.never rfl (piT (K := K) (pv 0)) (pg_name (i := 2) scis_row.nd rfl (Or.inl rfl)) (pss_cons (ps_if (pt_not (pt_val (pe_cal (E := E0) C_is_literal_form (hr.mono (by decide)) pass0 (pa_cons (pv 2) pa_nil)))) (pss_one (ps_ret pe_bl)) pss_nil)
      (pss_cut (ps_if (PW.pt (pw_and (pt_cmpR op_notN (pv 1) pe_non (nomark _)) (pw_and1 (pt_not (pt_cmpR (op_ltD (hu9 hr)) (pv 1) (pv 2) (by first | exact nomark _ | rfl)))))) (pss_one (ps_ret pe_bl)) pss_nil)
      (pss_one (ps_set (i := 1) scis_row.nd rfl (Or.inl rfl) (pv 2))))))
      (pss_one (ps_ret pe_bl))))), ?_⟩
  refine ⟨_, rfl, x, _, _, _, _, rfl, .ty "tuple", ty_dt hd, kit_ty (kit_tup d), _, rfl, ?_⟩
  cases h1 : isT "tuple" d with
  | false =>
    have e : rowD d = false := by cases d <;> first | rfl | (exfalso; revert h1; simp [isT])
    rw [e] at q
    exact q _ (Evl.Ex.refl _)
  | true =>
  obtain ⟨ds, rfl⟩ := isT_tup h1
  obtain ⟨a, xs, rfl, hs, ha⟩ := dt_tup hd
  have hl := dta_len ha
  refine ite2 (fun z => absurd z (by decide)) (fun _ => ?_)
  refine ⟨_, rfl, a, rfl, ⟨xs, SqT.of hs⟩, ?_⟩
  refine for_it walk_tup (fun i σ' H' => ∃ v lv, σ' = [some (.ref a), some lv, v] ∧ Ex H H' ∧ (∀ j, j < i → ∀ e, ds[j]? = some e → litD e = true) ∧ (∀ j, j + 1 < i → ∀ e f, ds[j]? = some e → ds[j + 1]? = some f → PySem.W.dataLt e f = true) ∧ ((i = 0 ∧ lv = .non) ∨ ∃ j, i = j + 1 ∧ xs[j]? = some lv))
    ⟨none, .non, rfl, Evl.Ex.refl _, fun j hj => (by omega), fun j hj => (by omega), .inl ⟨rfl, rfl⟩⟩ (fun i σ' H' hi ⟨_, _, _, e, _⟩ => SqT.of (e _ _ hs)) ?_ ?_
  · rintro i v σ' H' H2 hi ⟨v0, lv, rfl, e1, hall, hasc, hlv⟩ ⟨rfl, hv⟩
    obtain ⟨di, hdi, hti⟩ := dta_get ha hv
    refine ⟨_, rfl, v, di, rfl, ex_dt e1 _ _ hti, fun H3 e3 => ⟨_, rfl, ?_⟩⟩
    cases h2 : litD di with
    | false =>
      refine ite2 (fun _ => ?_) (fun z => absurd rfl z)
      have e : rowD (.tuple ds) = false := by
        show (ds.all litD && ascD ds) = false
        rw [show ds.all litD = false from Bool.eq_false_iff.mpr fun z => by rw [List.all_eq_true] at z; have := z di (List.mem_of_getElem? hdi); rw [h2] at this; cases this]; rfl
      rw [e] at q
      exact q _ (e1.trans e3)
    | true =>
    refine ite2 (fun z => absurd z (by decide)) (fun _ => ?_)
    have e13 := e1.trans e3
    have fin : (∀ j, i = j + 1 → ∀ e f, ds[j]? = some e → ds[j + 1]? = some f → PySem.W.dataLt e f = true) → (∃ v' lv', [some (V.ref a), some v, some v] = [some (V.ref a), some lv', v'] ∧ Ex H H3 ∧ (∀ j, j < i + 1 → ∀ e, ds[j]? = some e → litD e = true) ∧ (∀ j, j + 1 < i + 1 → ∀ e f, ds[j]? = some e → ds[j + 1]? = some f → PySem.W.dataLt e f = true) ∧ ((i + 1 = 0 ∧ lv' = .non) ∨ ∃ j, i + 1 = j + 1 ∧ xs[j]? = some lv')) := fun hj =>
      ⟨some v, v, rfl, e13, fun j hji e he => by
        by_cases z : j = i
        · subst z; rw [hdi] at he; cases he; exact h2
        · exact hall j (by omega) e he, fun j hji e f he hf => by
        by_cases z : j + 1 = i
        · exact hj j z.symm e f he hf
        · exact hasc j (by omega) e f he hf, .inr ⟨i, rfl, hv⟩⟩
    refine ⟨fun σ' H' => σ' = [some (.ref a), some lv, some v] ∧ H3 = H' ∧ (∀ j, i = j + 1 → ∀ e f, ds[j]? = some e → ds[j + 1]? = some f → PySem.W.dataLt e f = true), ?_, ?_⟩
    · rcases hlv with ⟨rfl, rfl⟩ | ⟨j, rfl, hj⟩
      · exact ⟨_, rfl, rfl, false, rfl, ite2 (fun z => absurd z (by decide)) (fun _ => ite2 (fun z => absurd z (by decide)) fun _ => ⟨rfl, rfl, fun j hj => by omega⟩)⟩
      · obtain ⟨dj, hdj, htj⟩ := dta_get ha hj
        have lj := hall j (by omega) dj hdj
        obtain ⟨rj, hrj⟩ : ∃ r, lv = .ref r := by
          obtain ⟨a1, b1, rfl, _⟩ := lit_shape lj
          obtain ⟨r, _, rfl, _⟩ := dt_tup htj
          exact ⟨r, rfl⟩
        refine ⟨_, rfl, rfl, true, by rw [hrj]; rfl, ?_⟩
        refine ite2 (fun _ => ?_) (fun z => absurd rfl z)
        have kj := lit_key lj
        have ki := lit_key h2
        refine ⟨_, rfl, _, rfl, dj, di, ex_dt e13 _ _ htj, ex_dt e13 _ _ hti, kj.1, ki.1, alike_lit lj h2, (by obtain ⟨_, _, rfl, _⟩ := lit_shape lj; exact fun z => nomatch z), by have := kj.2.1; omega, _, rfl, ?_⟩
        cases h3 : PySem.W.dataLt dj di with
        | true => exact ite2 (fun z => absurd z (by decide)) fun _ => ⟨rfl, rfl, fun j' hj' e f he hf => by
            have : j' = j := by omega
            subst this
            rw [hdj] at he; rw [hdi] at hf; cases he; cases hf; exact h3⟩
        | false =>
          refine ite2 (fun _ => ?_) (fun z => absurd rfl z)
          have e : rowD (.tuple ds) = false := by
            show (ds.all litD && ascD ds) = false
            rw [show ascD ds = false from Bool.eq_false_iff.mpr fun z => by have := asc_iff.mp z j dj di hdj hdi; rw [h3] at this; cases this]; simp
          rw [e] at q
          exact q _ e13
    · rintro σ' H4 ⟨rfl, rfl, hj⟩
      exact ⟨_, rfl, fin hj⟩
  · rintro σ' H2 ⟨v0, lv, rfl, e1, hall, hasc, _⟩
    have e : rowD (.tuple ds) = true := by
      show (ds.all litD && ascD ds) = true
      rw [Bool.and_eq_true, List.all_eq_true]
      refine ⟨fun e he => ?_, asc_iff.mpr fun j e f he hf => hasc j ?_ e f he hf⟩
      · obtain ⟨j, hj⟩ := List.getElem?_of_mem he
        exact hall j (by have := (List.getElem?_eq_some_iff.mp hj).1; omega) e hj
      · have := (List.getElem?_eq_some_iff.mp hf).1; omega
    rw [e] at q
    exact q _ e1
end
end K21
/-! what forced answers, as the law tells it: plainly -/
namespace M21
open PySem PySem.Spec PyProof.Rows Hx
def fstD (d : PyData) : PyData := match d with | .tuple (a :: _) => a | _ => .none
def litsD (d : PyData) : Bool := match d with | .list ds => ds.all litD && decide ((ds.map fun d => nk (fstD d)).Nodup) | _ => false
def rsd (nm : String) (vs : List PyData) : PyData := .list [.str (Str.ofString "raised"), .str (Str.ofString nm), .tuple vs]
def firstBad : List PyData → Nat → Option Nat
  | [], _ => none
  | d :: ds, i => if rowD d = true then firstBad ds (i + 1) else some i
def tupD (d : PyData) : List PyData := match d with | .tuple r => r | _ => []
def listD (d : PyData) : List PyData := match d with | .list r => r | _ => []
def askD (b l : PyData) : PyData := match b with
  | .list ds => match firstBad ds 0 with
    | some i => rsd "BadLine" [.int (i : Nat), .str (Str.ofString "row")]
    | none => if litsD l = false then rsd "BadValue" [.str (Str.ofString "literals")] else if 400 < ds.length then rsd "TooMany" [.str (Str.ofString "lines")]
      else if 2000 < (ds.map fun d => (tupD d).length).sum then rsd "TooMany" [.str (Str.ofString "literals")] else .list [.str (Str.ofString "told"), resD (ds.map tupD) (listD l)]
  | _ => rsd "BadValue" [.str (Str.ofString "rows")]
theorem first_app {b : PyData} (hb : rowD b = false) : ∀ {as : List PyData} {i : Nat}, (∀ a ∈ as, rowD a = true) → ∀ cs, firstBad (as ++ b :: cs) i = some (i + as.length)
  | [], i, _, cs => by rw [List.nil_append, firstBad, if_neg (by rw [hb]; decide)]; rfl
  | a :: as, i, h, cs => by
    rw [List.cons_append, firstBad, if_pos (h a (List.mem_cons_self ..)), first_app hb (fun x hx => h x (List.mem_cons_of_mem _ hx)), List.length_cons]
    congr 1; omega
theorem first_none : ∀ {as : List PyData} {i : Nat}, (∀ a ∈ as, rowD a = true) → firstBad as i = none
  | [], _, _ => rfl
  | a :: as, i, h => by rw [firstBad, if_pos (h a (List.mem_cons_self ..))]; exact first_none fun x hx => h x (List.mem_cons_of_mem _ hx)
theorem first_some : ∀ {as : List PyData} {i n : Nat}, firstBad as i = some n → ∃ k a, n = i + k ∧ as[k]? = some a ∧ rowD a = false ∧ ∀ j e, j < k → as[j]? = some e → rowD e = true
  | [], _, _, h => by cases h
  | a :: as, i, n, h => by
    rw [firstBad] at h
    split at h
    · rename_i ha
      obtain ⟨k, b, h1, h2, h3, h4⟩ := first_some h
      refine ⟨k + 1, b, by omega, by simpa using h2, h3, fun j e hj he => ?_⟩
      cases j with
      | zero => simp at he; subst he; exact ha
      | succ j => exact h4 j e (by omega) (by simpa using he)
    · rename_i ha
      cases h
      exact ⟨0, a, rfl, rfl, by cases e : rowD a with | true => exact absurd e ha | false => rfl, fun j e hj => by omega⟩
theorem first_all : ∀ {as : List PyData} {i : Nat}, firstBad as i = none → ∀ a ∈ as, rowD a = true
  | [], _, _, a, h => by cases h
  | x :: as, i, h, a, ha => by
    rw [firstBad] at h
    split at h
    · rename_i hx
      rcases List.mem_cons.mp ha with rfl | ha
      · exact hx
      · exact first_all h a ha
    · cases h
theorem map_tupD (rs : Rws) : (rs.map PyData.tuple).map tupD = rs := by
  rw [List.map_map]
  conv => rhs; rw [← List.map_id rs]
  rfl
/-- rows that are right, literals that are right, within the limits -/
theorem ask_told {rs : Rws} {ls : List PyData} (h1 : ∀ r ∈ rs, rowD (.tuple r) = true) (h2 : litsD (.list ls) = true) (h3 : rs.length ≤ 400) (h4 : (rs.map List.length).sum ≤ 2000) :
    askD (.list (rs.map PyData.tuple)) (.list ls) = .list [.str (Str.ofString "told"), resD rs ls] := by
  have e1 : firstBad (rs.map PyData.tuple) 0 = none := first_none fun a ha => by obtain ⟨r, hr, rfl⟩ := List.mem_map.mp ha; exact h1 r hr
  have e2 : ((rs.map PyData.tuple).map fun d => (tupD d).length).sum = (rs.map List.length).sum := by rw [List.map_map]; rfl
  unfold askD
  dsimp only
  rw [e1]
  dsimp only
  rw [h2, if_neg (by decide), if_neg (by rw [List.length_map]; omega), e2, if_neg (by omega), map_tupD]
  rfl
/-! rows that are none -/
theorem row_no_lit {r : List PyData} {x : PyData} (hx : x ∈ r) (h : litD x = false) : rowD (.tuple r) = false := by
  show (r.all litD && _) = false
  rw [show r.all litD = false from Bool.eq_false_iff.mpr fun z => by rw [List.all_eq_true] at z; have := z x hx; rw [h] at this; cases this]
  rfl
theorem row_no_asc {r : List PyData} {i : Nat} {x y : PyData} (hx : r[i]? = some x) (hy : r[i + 1]? = some y) (h : PySem.W.dataLt x y = false) : rowD (.tuple r) = false := by
  show (_ && ascD r) = false
  have : ascD r = false := Bool.eq_false_iff.mpr fun z => by
    have := (asc_iff.mp z) i x y hx hy
    rw [h] at this; cases this
  rw [this, Bool.and_false]
theorem row_asc {r : List PyData} (h : rowD (.tuple r) = true) : ascD r = true := by
  have h : (r.all litD && ascD r) = true := h
  rw [Bool.and_eq_true] at h
  exact h.2
theorem row_rev {r : List PyData} (h : rowD (.tuple r) = true) (hl : 1 < r.length) : rowD (.tuple r.reverse) = false := by
  match r, hl with
  | a :: b :: r, _ =>
    have h1 := (asc_iff.mp (row_asc h)) 0 a b rfl rfl
    have e1 : (a :: b :: r).reverse[r.length]? = some b := by
      rw [List.getElem?_reverse (by simp only [List.length_cons]; omega)]
      simp
    have e2 : (a :: b :: r).reverse[r.length + 1]? = some a := by
      rw [List.getElem?_reverse (by simp only [List.length_cons]; omega)]
      simp
    exact row_no_asc e1 e2 (lt_asymm h1)
theorem row_twice {r : List PyData} {k : Nat} (hk : k < r.length) : rowD (.tuple (r.take (k + 1) ++ r.drop k)) = false := by
  have e1 : (r.take (k + 1) ++ r.drop k)[k]? = some r[k] := by
    rw [List.getElem?_append_left (by rw [List.length_take]; omega), List.getElem?_take, if_pos (by omega), List.getElem?_eq_getElem hk]
  have e2 : (r.take (k + 1) ++ r.drop k)[k + 1]? = some r[k] := by
    have : (r.take (k + 1)).length = k + 1 := by rw [List.length_take]; omega
    rw [List.getElem?_append_right (by omega), this, List.getElem?_drop, List.getElem?_eq_getElem (by omega)]
    simp
  exact row_no_asc e1 e2 (PySem.W.dataLt_self _)
end M21
namespace K21
open PySem PySem.Spec PyProof.Rows L2 Hx Hd
open Evl (pss_cut tCut ex_l ex_t)
open M21
theorem only_ex {H H1 H2 : Hp} {p : Addr} (e : Ex H H1) (on : Only H1 p H2) (hp : H p = none) : Ex H H2 := fun b u h => (on b (ne_of_none h hp)).trans (e _ _ h)
theorem ky_atom {H : Hp} {v : V} {d : PyData} (h : Dt H v d) (a : atomD d = true) : Ky H v (nk d) := by
  obtain ⟨k1, k2, k3⟩ := atom_key a
  obtain ⟨r, rfl⟩ : ∃ r, v = .ref r := by
    rcases atom_shape a with ⟨_, _, rfl⟩ | ⟨_, _, _, rfl⟩ | ⟨_, _, _, _, rfl⟩ <;> (obtain ⟨r, _, rfl, _⟩ := dt_tup h; exact ⟨r, rfl⟩)
  exact ⟨r, d, rfl, h, k1, rfl, by omega⟩
theorem ky_lit {H : Hp} {v : V} {d : PyData} (h : Dt H v d) (a : litD d = true) : Ky H v (nk d) := by
  obtain ⟨k1, k2, k3⟩ := lit_key a
  obtain ⟨r, rfl⟩ : ∃ r, v = .ref r := by
    obtain ⟨_, _, rfl, _⟩ := lit_shape a
    obtain ⟨r, _, rfl, _⟩ := dt_tup h
    exact ⟨r, rfl⟩
  exact ⟨r, d, rfl, h, k1, rfl, by omega⟩
theorem valN_put {kvs : List (NestedKey × V)} {k j : NestedKey} {v : V} : (valV (putK kvs k v) j).isSome = (decide (j = k) || (valV kvs j).isSome) := by
  rw [valV_put]
  by_cases h : j = k
  · rw [if_pos h, decide_eq_true h]; rfl
  · rw [if_neg h, decide_eq_false h]; rfl
section
variable {P : Program} {w : World} {K : PySem.W.Frag} {mg : Str → Option Value} {base : Heap}
def spJl (f : PyData → Bool) : Sp := fun vs H Q _ => ∃ x d, vs = [x] ∧ Dt H x d ∧ (∀ ds, d = .list ds → ds.length ≤ 100000) ∧ ∀ H2, Ex H H2 → Q (.bl (f d)) H2
abbrev Nare_literals : List Str := ["value", "atoms", "literal"]
theorem scare_literals : FnScope Nare_literals ["value"] (defScope (top 22)) := ⟨rfl, rfl, rfl, by decide +kernel, rfl, by decide +kernel, by decide +kernel⟩
theorem ok_lits (T : Txt K mg) (C_is_literal_form : Cal P w K mg base CX0 3 "is_literal_form" ["value"] (spJ litD)) : Cal P w K mg base CX0 4 "are_literals" ["value"] (spJl litsD) := by
  refine mkCal T.g_are_literals T.d_are_literals scare_literals (fun _ _ _ _ _ _ us hl => match us, hl with | [_], _ => rfl) (fun vs H Q E h => ?_) fun cdv A outer s H vs Q E hr h => ?_
  · obtain ⟨x, d, rfl, _⟩ := h; rfl
  obtain ⟨x, d, rfl, hd, hz, q⟩ := h
  refine ⟨_, (pss_cons (ps_if (pt_not (pt_val (pe_callB (isiR (K := K)) (by rfl) T.n_isinstance (by decide +kernel) (pa_cons (pv 0) (pa_cons (pe_bltn (v := .ty "list") rfl T.n_list (by decide +kernel) rfl) pa_nil))))) (pss_one (ps_ret pe_bl)) pss_nil)
      (pss_cons (ps_set (i := 1) scare_literals.nd rfl (Or.inl rfl) pe_dnewN)
      (pss_cons (ps_for PassesOwn.never rfl (piL (K := K) (pv 0)) (pg_name (i := 2) scare_literals.nd rfl (Or.inl rfl)) (pss_cut (ps_if (PW.pt (pw_or (pt_not (pt_val (pe_cal (E := E0) C_is_literal_form (hr.mono (by decide)) pass0 (pa_cons (pv 2) pa_nil)))) (pw_or1 (pt_cmpR (op_inN (hu9 hr)) (pe_ix (ixT (K := K)) (pv 2) pe_int (fun _ _ => rfl)) (pv 1) (by rfl))))) (pss_one (ps_ret pe_bl)) pss_nil)
      (pss_one (ps_nput (hu9 hr) (pv 1) (pe_ix (ixT (K := K)) (pv 2) pe_int (fun _ _ => rfl)) pe_bl rfl))))
      (pss_one (ps_ret pe_bl))))), ?_⟩
  refine ⟨_, rfl, x, _, _, _, _, rfl, .ty "list", ty_dt hd, kit_ty (kit_list d), _, rfl, ?_⟩
  cases h1 : isT "list" d with
  | false =>
    have e : litsD d = false := by cases d <;> first | rfl | (exfalso; revert h1; simp [isT])
    rw [e] at q
    exact q _ (Evl.Ex.refl _)
  | true =>
  obtain ⟨ds, rfl⟩ := isT_list h1
  obtain ⟨a, xs, rfl, hs, ha⟩ := dt_list hd
  have hl := dta_len ha
  have hz := hz ds rfl
  refine ite2 (fun z => absurd z (by decide)) (fun _ => fun p hp => ?_)
  have hs0 := Evl.Ex.new hp (o := DNo P w p [] []) _ _ hs
  refine ⟨_, rfl, a, rfl, ⟨xs, SqL.of hs0⟩, ?_⟩
  refine for_it walk_list (fun i σ' H' => ∃ v kvs, σ' = [some (.ref a), some (.ref p), v] ∧ Ex H H' ∧ DN P w H' p kvs ∧ kvs.length ≤ i ∧ (∀ k, (valV kvs k).isSome = true ↔ k ∈ (ds.take i).map fun d => nk (fstD d)) ∧ (∀ j, j < i → ∀ e, ds[j]? = some e → litD e = true) ∧ ((ds.take i).map fun d => nk (fstD d)).Nodup)
    ⟨none, [], rfl, Evl.Ex.new hp, dn_new, Nat.le_refl _, fun k => by simp [valV], fun j hj => (by omega), by simp⟩ (fun i σ' H' hi ⟨_, _, _, e, _⟩ => SqL.of (e _ _ hs)) ?_ ?_
  · rintro i v σ' H' H2 hi ⟨v0, kvs, rfl, e1, dn, hkl, hkv, hall, hnd⟩ ⟨rfl, hv⟩
    obtain ⟨di, hdi, hti⟩ := dta_get ha hv
    have htk : ds.take (i + 1) = ds.take i ++ [di] := by rw [List.take_succ, hdi]; rfl
    refine ⟨fun σ' H' => ∃ H3, Ex H' H3 ∧ H3 = H' ∧ σ' = [some (.ref a), some (.ref p), some v] ∧ Ex H2 H' ∧ litD di = true ∧ nk (fstD di) ∉ (ds.take i).map (fun d => nk (fstD d)), ?_, ?_⟩
    · refine ⟨_, rfl, v, di, rfl, ex_dt e1 _ _ hti, fun H3 e3 => ⟨_, rfl, ?_⟩⟩
      cases h2 : litD di with
      | false =>
        refine ite2 (fun _ => ?_) (fun z => absurd rfl z)
        have e : litsD (.list ds) = false := by
          show (ds.all litD && _) = false
          rw [show ds.all litD = false from Bool.eq_false_iff.mpr fun z => by rw [List.all_eq_true] at z; have := z di (List.mem_of_getElem? hdi); rw [h2] at this; cases this]; rfl
        rw [e] at q
        exact q _ (e1.trans e3)
      | true =>
      refine ite2 (fun z => absurd z (by decide)) (fun _ => ?_)
      obtain ⟨d1, b, rfl, hat⟩ := lit_shape h2
      obtain ⟨r, ys, rfl, hr1, hya⟩ := dt_tup hti
      cases hya with
      | cons g1 hya =>
      cases hya with
      | cons g2 hya =>
      cases hya
      rename_i v1 v2
      have e13 := e1.trans e3
      refine ⟨_, rfl, r, _, 0, _, rfl, rfl, SqT.of (e13 _ _ hr1), rfl, _, rfl, p, kvs, nk d1, rfl, dn.ex e3, ky_atom (ex_dt e13 _ _ g1) hat, _, rfl, ?_⟩
      refine ite2 (fun z => ?_) (fun z => ?_)
      · have hm := (hkv (nk d1)).mp z
        have e : litsD (.list ds) = false := by
          show (_ && decide _) = false
          rw [decide_eq_false ?_, Bool.and_false]
          intro nd
          have h3 := List.nodup_append.mp (show ((ds.take (i + 1)).map (fun d => nk (fstD d)) ++ (ds.drop (i + 1)).map fun d => nk (fstD d)).Nodup by rw [← List.map_append, List.take_append_drop]; exact nd)
          have h4 := h3.1
          rw [htk, List.map_append] at h4
          exact (List.nodup_append.mp h4).2.2 _ hm (nk d1) (by simp [fstD]) rfl
        rw [e] at q
        exact q _ e13
      · exact ⟨H3, Evl.Ex.refl _, rfl, rfl, e3, rfl, fun m => z ((hkv (nk d1)).mpr m)⟩
    · rintro σ' H3 ⟨_, _, rfl, rfl, e3, h2, hnm⟩
      obtain ⟨d1, b, rfl, hat⟩ := lit_shape h2
      obtain ⟨r, ys, rfl, hr1, hya⟩ := dt_tup hti
      cases hya with
      | cons g1 hya =>
      cases hya with
      | cons g2 hya =>
      cases hya
      have e13 := e1.trans e3
      refine ⟨_, rfl, _, rfl, r, _, 0, _, rfl, rfl, SqT.of (e13 _ _ hr1), rfl, p, kvs, nk d1, rfl, dn.ex e3, ky_atom (ex_dt e13 _ _ g1) hat, Nat.lt_of_le_of_lt (show kvs.length ≤ 100000 by omega) (sz _ (by omega)), fun H4 on d4 => ?_⟩
      refine ⟨_, _, rfl, only_ex e13 on hp, d4, by have := length_putK kvs (nk d1) (.bl true); omega, fun k => ?_, fun j hj e he => ?_, ?_⟩
      · rw [valN_put, htk, List.map_append, List.mem_append, Bool.or_eq_true, decide_eq_true_iff, hkv k]
        simp [fstD, or_comm]
      · by_cases z : j = i
        · subst z; rw [hdi] at he; cases he; exact h2
        · exact hall j (by omega) e he
      · rw [htk, List.map_append, List.nodup_append]
        exact ⟨hnd, by simp, fun x hx y hy z => hnm (by simp at hy; rw [← hy] at *; rw [← z]; exact hx)⟩
  · rintro σ' H2 ⟨v0, kvs, rfl, e1, dn, hkl, hkv, hall, hnd⟩
    have hlen : xs.length = ds.length := hl
    rw [hlen, List.take_length] at hnd
    have e : litsD (.list ds) = true := by
      show (ds.all litD && decide _) = true
      rw [decide_eq_true hnd, Bool.and_true, List.all_eq_true]
      intro e he
      obtain ⟨j, hj⟩ := List.getElem?_of_mem he
      exact hall j (by have := (List.getElem?_eq_some_iff.mp hj).1; omega) e hj
    rw [e] at q
    exact q _ e1
end
end K21
namespace K21
open PySem PySem.Spec PyProof.Rows L2 Hx Hd
open Evl (pss_cut tCut ex_l ex_t)
open M21
theorem r_ex {G : Hp} : ∀ {ys : List V} {Pr : Nat → PyData → Prop}, (∀ i y, ys[i]? = some y → ∃ d, Dt G y d ∧ Pr i d) → ∃ ds, DtAll G ys ds ∧ ∀ i d, ds[i]? = some d → Pr i d
  | [], _, _ => ⟨[], .nil, fun i d h => by simp at h⟩
  | y :: ys, Pr, h => by
    obtain ⟨d, h1, h2⟩ := h 0 y rfl
    obtain ⟨ds, h3, h4⟩ := r_ex (ys := ys) (Pr := fun i d => Pr (i + 1) d) fun i y hy => h (i + 1) y (by simpa using hy)
    refine ⟨d :: ds, .cons h1 h3, fun i e he => ?_⟩
    cases i with
    | zero => simp at he; subst he; exact h2
    | succ i => exact h4 i e (by simpa using he)
theorem dg_log (i : Nat) (h : i < 200) : ((i : Nat) : Int).natAbs.log2 < 1920 := by
  rw [Int.natAbs_natCast]
  exact Nat.lt_of_le_of_lt (Nat.log2_le_self _) (by omega)
theorem mrk_len {c i : Nat} (h : i < 200) : (mrk c i).length ≤ 4 := by
  have : (dg i).length ≤ 3 := (dg_all ⟨i, h⟩).2.2.1
  show (mrk c i).cps.size ≤ 4
  rw [mrk_size]; omega
theorem sgn_len {c i : Nat} (h : i < 200) : (⟨#[c]⟩ : Str).length + (toString ((i : Nat) : Int) : Str).length ≤ sizeLine := by
  have : (dg i).length ≤ 3 := (dg_all ⟨i, h⟩).2.2.1
  have e : (toString ((i : Nat) : Int) : Str).length = (dg i).length := by
    show (dgS i).cps.size = (dgS i).cps.toList.length
    simp
  rw [e]
  exact Nat.le_trans (show 1 + (dg i).length ≤ 1000 by omega) (by decide)
section
variable {P : Program} {w : World} {K : PySem.W.Frag} {mg : Str → Option Value} {base : Heap}
abbrev N_law_denied : List Str := ["literal"]
theorem sc_law_denied : FnScope N_law_denied ["literal"] (defScope (top 41)) := ⟨rfl, rfl, rfl, by decide +kernel, rfl, by decide +kernel, by decide +kernel⟩
theorem ok_lden (T : Txt K mg) : Cal P w K mg base CX0 1 "_law_denied" ["literal"] spDen := by
  refine mkCal T.g__law_denied T.d__law_denied sc_law_denied (fun _ _ _ _ _ _ us hl => match us, hl with | [_], _ => rfl) (fun vs H Q E h => ?_) fun cdv A outer s H vs Q E hr h => ?_
  · obtain ⟨x, _, _, rfl, _⟩ := h; rfl
  obtain ⟨r, x, b, rfl, hr1, q⟩ := h
  refine ⟨_, (pss_one (ps_ret (pe_tup (pa_cons (pe_ix (ixT (K := K)) (pv 0) pe_int (fun _ _ => rfl)) (pa_cons (pe_not (pe_ix (ixT (K := K)) (pv 0) pe_int (fun _ _ => rfl))) pa_nil))))), ?_⟩
  exact ⟨_, rfl, r, _, 0, _, rfl, rfl, SqT.of hr1, rfl, _, rfl, r, _, 1, _, rfl, rfl, SqT.of hr1, rfl, b, rfl, szl 2 (by omega), q⟩
def spAtom : Sp := fun vs H Q _ => ∃ (s L : Addr) (i : Nat) (G : Hp), vs = [.ref s, .int i] ∧ Strm H s L ∧ Ex G H ∧ G s = none ∧ i < 100 ∧ ∀ v d G2 H2, Ga s L G H G2 H2 → Dt G2 v d → AtomN i d → Q v H2
abbrev N_law_atom : List Str := ["stream", "at", "kind", "one", "other"]
theorem sc_law_atom : FnScope N_law_atom ["stream", "at"] (defScope (top 43)) := ⟨rfl, rfl, rfl, by decide +kernel, rfl, by decide +kernel, by decide +kernel⟩
theorem ok_atomL (T : Txt K mg) (C__law_next : Cal P w K mg base CX0 1 "_law_next" ["stream", "many"] spNext) (C__law_pick : Cal P w K mg base CX0 2 "_law_pick" ["stream", "rows"] spPickS) : Cal P w K mg base CX0 3 "_law_atom" ["stream", "at"] spAtom := by
  refine mkCal T.g__law_atom T.d__law_atom sc_law_atom (fun _ _ _ _ _ _ us hl => match us, hl with | [_, _], _ => rfl) (fun vs H Q E h => ?_) fun cdv A outer s0 H vs Q E hr h => ?_
  · obtain ⟨_, _, _, _, rfl, _⟩ := h; rfl
  obtain ⟨s, L, i, G, rfl, st, eG, gs, hi, q⟩ := h
  refine ⟨_, (pss_cons (ps_set (i := 2) sc_law_atom.nd rfl (Or.inl rfl) (pe_cal (E := E0) C__law_next (hr.mono (by decide)) pass0 (pa_cons (pv 0) (pa_cons pe_int pa_nil))))
      (pss_cons (ps_set (i := 3) sc_law_atom.nd rfl (Or.inl rfl) (pe_op op_add_str (pe_cal (E := E0) C__law_pick (hr.mono (by decide)) pass0 (pa_cons (pv 0) (pa_cons pe_str pa_nil))) (pe_callTy call_str_int (by rfl) T.n_str (by decide +kernel) (pa_cons (pv 1) pa_nil))))
      (pss_cons (ps_set (i := 4) sc_law_atom.nd rfl (Or.inl rfl) (pe_op op_add_str (pe_cal (E := E0) C__law_pick (hr.mono (by decide)) pass0 (pa_cons (pv 0) (pa_cons pe_str pa_nil))) (pe_callTy call_str_int (by rfl) T.n_str (by decide +kernel) (pa_cons (pe_op op_add pe_int (pe_cal (E := E0) C__law_next (hr.mono (by decide)) pass0 (pa_cons (pv 0) (pa_cons pe_int pa_nil)))) pa_nil))))
      (pss_cons (ps_if (pt_cmpR op_eq (pv 2) pe_int (nomark _)) (pss_one (ps_ret (pe_tup (pa_cons pe_str (pa_cons (pv 3) pa_nil))))) pss_nil)
      (pss_cons (ps_if (pt_cmpR op_eq (pv 2) pe_int (nomark _)) (pss_one (ps_ret (pe_tup (pa_cons pe_str (pa_cons (pe_op op_add_str (pe_op op_add_str (pv 3) pe_str) (pv 4)) pa_nil))))) pss_nil)
      (pss_cons (ps_if (pt_cmpR op_eq (pv 2) pe_int (nomark _)) (pss_one (ps_ret (pe_tup (pa_cons pe_str (pa_cons (pe_callB (call_min2S rfl) (by rfl) T.n_min (by decide +kernel) (pa_cons (pv 3) (pa_cons (pv 4) pa_nil))) (pa_cons (pe_callB (call_max2S rfl) (by rfl) T.n_max (by decide +kernel) (pa_cons (pv 3) (pa_cons (pv 4) pa_nil))) pa_nil)))))) pss_nil)
      (pss_one (ps_ret (pe_ifExp (pt_cmpR op_eq (pv 2) pe_int (nomark _)) (pe_tup (pa_cons pe_str (pa_cons (pv 3) (pa_cons (pv 4) (pa_cons (pe_op op_sub (pe_un un_neg pe_int) (pe_cal (E := E0) C__law_next (hr.mono (by decide)) pass0 (pa_cons (pv 0) (pa_cons pe_int pa_nil)))) pa_nil))))) (pe_tup (pa_cons pe_str (pa_cons (pv 3) (pa_cons (pv 4) pa_nil))))))))))))), ?_⟩
  have ga := Ga.refl eG st gs
  refine ⟨_, rfl, s, L, 5, rfl, st, by decide, by decide, fun kd H2 k0 k1 kp2 st2 => ?_⟩
  have ga := ga.next kp2 st2
  refine ⟨_, rfl, s, L, _, rfl, st2, by decide, by decide, fun c H3 kp3 st3 => ?_⟩
  have ga := ga.next kp3 st3
  refine ⟨_, rfl, (i : Int), rfl, dg_log i (by omega), _, _, rfl, rfl, sgn_len (by omega), ?_⟩
  refine ⟨_, rfl, s, L, _, rfl, st3, by decide, by decide, fun c2 H4 kp4 st4 => ?_⟩
  have ga := ga.next kp4 st4
  refine ⟨_, rfl, s, L, 30, rfl, st4, by decide, by decide, fun d H5 d0 d1 kp5 st5 => ?_⟩
  have ga := ga.next kp5 st5
  obtain ⟨j, hj, hj1, hj2⟩ : ∃ j : Nat, (100 : Int) + d = (j : Int) ∧ 100 ≤ j ∧ j < 130 := ⟨(100 + d).toNat, by omega, by omega, by omega⟩
  refine ⟨100, d, rfl, rfl, (j : Int), congrArg (fun z => [V.int z]) hj, dg_log j (by omega), _, _, rfl, rfl, sgn_len (by omega), ?_⟩
  have hm1 : (mrk c i).length ≤ 4 := mrk_len (by omega)
  have hm2 : (mrk c2 j).length ≤ 4 := mrk_len (by omega)
  have ha : (Str.ofString " and ").length = 5 := by decide +kernel
  refine ⟨_, rfl, rfl, _, rfl, ?_⟩
  refine ite2 (fun _ => ?_) (fun _ => ?_)
  · refine ⟨_, rfl, szl 2 (by omega), fun p hp => q _ _ _ _ (ga.new hp) (.tup upd_same (.cons (.str _) (.cons (.str _) .nil))) (an_truth (by omega))⟩
  refine ⟨_, rfl, rfl, _, rfl, ?_⟩
  refine ite2 (fun _ => ?_) (fun _ => ?_)
  · refine ⟨_, rfl, mrk c i, Str.ofString " and ", rfl, rfl, ?_, _, rfl, mrk c i ++ Str.ofString " and ", mrk c2 j, rfl, rfl, ?_, szl 2 (by omega), fun p hp => q _ _ _ _ (ga.new hp) (.tup upd_same (.cons (.str _) (.cons (.str _) .nil))) (an_inner (by omega) _)⟩
    · exact Nat.le_trans (show _ ≤ 1000 by omega) (by decide)
    · rw [cat_len]
      exact Nat.le_trans (show _ ≤ 1000 by omega) (by decide)
  refine ⟨_, rfl, rfl, _, rfl, ?_⟩
  refine ite2 (fun _ => ?_) (fun _ => ?_)
  · refine ⟨_, rfl, _, rfl, mrk c i, mrk c2 j, rfl, _, rfl, _, rfl, mrk c i, mrk c2 j, rfl, szl 3 (by omega), fun p hp => q _ _ _ _ (ga.new hp) (.tup upd_same (.cons (.str _) (.cons (.str _) (.cons (.str _) .nil)))) (an_equal (by omega) hj1 (by omega))⟩
  refine ⟨_, rfl, rfl, _, rfl, ?_⟩
  refine ite2 (fun _ => ?_) (fun _ => ?_)
  · refine ⟨_, rfl, _, rfl, 1, rfl, _, rfl, s, L, 3, rfl, st5, by decide, by decide, fun d2 H6 e0 e1 kp6 st6 => ?_⟩
    have ga := ga.next kp6 st6
    refine ⟨-1, d2, rfl, rfl, szl 4 (by omega), fun p hp => q _ _ _ _ (ga.new hp) (.tup upd_same (.cons (.str _) (.cons (.str _) (.cons (.str _) (.cons (.int _) .nil))))) (an_bound (by omega) _ _ (by omega))⟩
  · exact ⟨_, rfl, _, rfl, szl 3 (by omega), fun p hp => q _ _ _ _ (ga.new hp) (.tup upd_same (.cons (.str _) (.cons (.str _) (.cons (.str _) .nil)))) (an_less (by omega) hj1 (by omega))⟩
def spAtoms : Sp := fun vs H Q _ => ∃ (s L : Addr) (m : Nat) (G : Hp), vs = [.ref s, .int m] ∧ Strm H s L ∧ Ex G H ∧ G s = none ∧ m ≤ 100 ∧ ∀ p vs ds G2 H2, Ga s L G H G2 H2 → G2 p = some (.lst vs) → DtAll G2 vs ds → AtomsN ds → ds.length = m → Q (.ref p) H2
abbrev N_law_atoms : List Str := ["stream", "many", "at"]
theorem sc_law_atoms : FnScope N_law_atoms ["stream", "many"] (defScope (top 44)) := ⟨rfl, rfl, rfl, by decide +kernel, rfl, by decide +kernel, by decide +kernel⟩
theorem ok_atomsL (T : Txt K mg) (C__law_atom : Cal P w K mg base CX0 3 "_law_atom" ["stream", "at"] spAtom) : Cal P w K mg base CX0 4 "_law_atoms" ["stream", "many"] spAtoms := by
  refine mkCal T.g__law_atoms T.d__law_atoms sc_law_atoms (fun _ _ _ _ _ _ us hl => match us, hl with | [_, _], _ => rfl) (fun vs H Q E h => ?_) fun cdv A outer s0 H vs Q E hr h => ?_
  · obtain ⟨_, _, _, _, rfl, _⟩ := h; rfl
  obtain ⟨s, L, m, G, rfl, st, eG, gs, hm, q⟩ := h
  refine ⟨_, (pss_one (ps_ret (pe_lc (own := [("at", 2)]) (g := gName 2) rfl sc_law_atoms.nd (pi_range1 (by rfl) T.n_range (pa_cons (pv 1) pa_nil)) (blkOk_by (N := N_law_atoms) (sc := defScope (top 44)) (by decide +kernel)) (fun _ _ _ _ _ => (pg_name (i := 2) sc_law_atoms.nd rfl (Or.inl rfl))) (fun _ _ _ _ _ => pts_nil) (fun _ _ _ _ _ => (pe_cal (E := E0) C__law_atom (hr.mono (by decide)) pass0 (pa_cons (pv 0) (pa_cons (pv 2) pa_nil))))))), ?_⟩
  refine ⟨_, rfl, m, rfl, by omega, by omega, fun D hD => ?_⟩
  refine lcGa walk_range (Ga.refl eG st gs) (fun _ _ _ _ => trivial) (by omega) (fun i v G => ∃ d, Dt G v d ∧ AtomN i d) (fun i v G G' e ⟨d, h1, h2⟩ => ⟨d, ex_dt e _ _ h1, h2⟩) (fun i => [some (.ref s), some (.int m), some (.int (0 + (i : Int)))])
    (fun i x G' H' H'' hi a e yy Q q => ?_) (fun _ _ => rfl) (fun i G' H' hi a e Q q => ?_) (fun i x G' H' H'' hi a yy => yy.1) hD (fun ys G' H' a e hp hl hr => ?_)
  · obtain ⟨rfl, rfl⟩ := yy
    exact q rfl
  · exact ⟨_, rfl, _, rfl, s, L, i, G', by rw [Int.zero_add]; rfl, a.st, a.ge, a.gs, by omega, fun v d G2 H2 b h1 h2 => q v G2 H2 b ⟨d, h1, h2⟩⟩
  · obtain ⟨ds, h1, h2⟩ := r_ex hr
    have := dta_len h1
    exact q D ys ds G' H' a hp h1 ⟨by omega, h2⟩ (by omega)
def spClause : Sp := fun vs H Q _ => ∃ (s L a : Addr) (us : List V) (ds : List PyData) (lo hi : Nat) (G : Hp), vs = [.ref s, .ref a, .int lo, .int hi] ∧ Strm H s L ∧ Ex G H ∧ G s = none ∧ G a = some (.lst us) ∧ DtAll G us ds ∧ AtomsN ds ∧ 1 ≤ ds.length ∧ 1 ≤ lo ∧ lo ≤ hi ∧ hi ≤ 10 ∧
  ∀ v r G2 H2, Ga s L G H G2 H2 → Dt G2 v (.tuple r) → rowD (.tuple r) = true → 1 ≤ r.length → r.length ≤ hi → Q v H2
abbrev N_law_clause : List Str := ["stream", "atoms", "low", "high", "found", "turn", "literal"]
theorem sc_law_clause : FnScope N_law_clause ["stream", "atoms", "low", "high"] (defScope (top 45)) := ⟨rfl, rfl, rfl, by decide +kernel, rfl, by decide +kernel, by decide +kernel⟩
theorem ok_clause (T : Txt K mg) (C__law_next : Cal P w K mg base CX0 1 "_law_next" ["stream", "many"] spNext) (C__law_pick : Cal P w K mg base CX0 2 "_law_pick" ["stream", "rows"] (spPick K)) (C__law_from : Cal P w K mg base CX0 2 "_law_from" ["stream", "low", "high"] spFrom) :
    Cal P w K mg base CX0 3 "_law_clause" ["stream", "atoms", "low", "high"] spClause := by
  refine mkCal T.g__law_clause T.d__law_clause sc_law_clause (fun _ _ _ _ _ _ us hl => match us, hl with | [_, _, _, _], _ => rfl) (fun vs H Q E h => ?_) fun cdv A outer s0 H vs Q E hr h => ?_
  · obtain ⟨_, _, _, _, _, _, _, _, rfl, _⟩ := h; rfl
  obtain ⟨s, L, a, us, ds, lo, hi, G, rfl, st, eG, gs, hus, hds, hat, hn, l1, l2, l3, q⟩ := h
  refine ⟨_, (pss_cons (ps_set (i := 4) sc_law_clause.nd rfl (Or.inl rfl) (pe_lst pa_nil))
      (pss_cons (ps_for PassesOwn.never rfl (pi_range1 (by rfl) T.n_range (pa_cons (pe_cal (E := E0) C__law_from (hr.mono (by decide)) pass0 (pa_cons (pv 0) (pa_cons (pv 2) (pa_cons (pv 3) pa_nil)))) pa_nil)) (pg_name (i := 5) sc_law_clause.nd rfl (Or.inl rfl)) (pss_cons (ps_set (i := 6) sc_law_clause.nd rfl (Or.inl rfl) (pe_tup (pa_cons (pe_cal (E := E0) C__law_pick (hr.mono (by decide)) pass0 (pa_cons (pv 0) (pa_cons (pv 1) pa_nil))) (pa_cons (pe_cmpR op_eq (pe_cal (E := E0) C__law_next (hr.mono (by decide)) pass0 (pa_cons (pv 0) (pa_cons pe_int pa_nil))) pe_int (nomark _)) pa_nil))))
      (pss_one (ps_if (pt_cmpR (Hx.op_notInD (hu65 hr)) (pv 6) (pv 4) (by first | exact nomark _ | rfl)) (pss_one (ps_expr (pe_bm PySem.F.plainAttrs_list PySem.F.slot_list_append PySem.F.type_list_append mt_append (pv 4) (pa_cons (pv 6) pa_nil)))) pss_nil))))
      (pss_one (ps_ret (pe_callTy (tupOf (K := K)) (by rfl) T.n_tuple (by decide +kernel) (pa_cons (pe_callB (Hx.sortD (hu65 hr)) (by rfl) T.n_sorted (by decide +kernel) (pa_cons (pv 4) pa_nil)) pa_nil)))))), ?_⟩
  have ul := dta_len hds
  have un := hat.1
  have nas : a ≠ s := fun e => by rw [e, gs] at hus; cases hus
  refine ⟨szl 0 (by omega), fun f hf => ?_⟩
  have ga := (Ga.refl eG st gs).lay hf (o := .lst [])
  have nfs := st.free f hf
  have hf1 : upd H f (.lst []) f = some (.lst []) := upd_same
  have g1 : G f = none := Evl.fresh_back eG hf
  generalize upd H f (.lst []) = H1 at ga hf1
  refine ⟨_, rfl, _, rfl, _, rfl, s, L, lo, hi, rfl, ga.st, by omega, by omega, fun m H2 m0 m1 kp2 st2 => ?_⟩
  have ga2 := ga.next kp2 st2
  have hf2 := kp2 f _ nfs hf1
  refine ⟨m, rfl, by omega, by omega, ?_⟩
  refine for_it walk_range (fun i σ' H' => ∃ tv lv G' xs fs, σ' = [some (.ref s), some (.ref a), some (.int lo), some (.int hi), some (.ref f), tv, lv] ∧ Ga s L G H G' H' ∧ G' f = none ∧ H' f = some (.lst xs) ∧ DtAll G' xs fs ∧ (∀ x ∈ fs, litD x = true) ∧ fs.Nodup ∧ fs.length ≤ i ∧ (1 ≤ i → 1 ≤ fs.length))
    ⟨none, none, G, [], [], rfl, ga2, g1, hf2, .nil, (fun x h => by cases h), List.nodup_nil, Nat.le_refl _, fun h => (by omega)⟩ (fun _ _ _ _ _ => trivial) ?_ ?_
  · rintro i x σ' H' H'' hi' ⟨tv, lv, G', xs, fs, rfl, b, gf, hf', hfs, hl, nd, hz, hz1⟩ ⟨rfl, rfl⟩
    refine ⟨_, rfl, _, rfl, s, L, a, us, rfl, b.st, .inl (SqL.of (b.ge _ _ (b.gg _ _ hus))), nas, by omega, by omega, fun j y H4 hy kp4 st4 => ?_⟩
    have b4 := b.next kp4 st4
    obtain ⟨dj, hdj, htj⟩ := dta_get (ex_dta b.gg hds) hy
    have haj := (hat.2 j dj hdj).1
    refine ⟨_, rfl, s, L, 2, rfl, st4, by decide, by decide, fun d H5 d0 d1 kp5 st5 => ?_⟩
    have b5 := b4.next kp5 st5
    have hf5 := kp5 f _ nfs (kp4 f _ nfs hf')
    refine ⟨rfl, szl 2 (by omega), fun p hp => ?_⟩
    have b6 := b5.new hp (o := .tup [y, .bl (decide (V.int d = V.int 0))])
    have e6 : Ex G' _ := b5.fr hp (o := .tup [y, .bl (decide (V.int d = V.int 0))])
    have hl6 : Dt (upd G' p (.tup [y, .bl (decide (V.int d = V.int 0))])) (.ref p) (.tuple [dj, .bool (decide (V.int d = V.int 0))]) := .tup upd_same (.cons (ex_dt e6 _ _ htj) (.cons (.bl _) .nil))
    have hf6 : upd H5 p (.tup [y, .bl (decide (V.int d = V.int 0))]) f = some (.lst xs) := by rw [upd_ne (ne_of_none hf5 hp)]; exact hf5
    have hfs6 := ex_dta e6 hfs
    have gf6 : upd G' p (.tup [y, .bl (decide (V.int d = V.int 0))]) f = none := by rw [upd_ne (ne_of_none hf5 hp)]; exact gf
    have ld : litD (.tuple [dj, .bool (decide (V.int d = V.int 0))]) = true := lit_mk haj
    generalize PyData.tuple [dj, .bool (decide (V.int d = V.int 0))] = dl at hl6 ld
    generalize upd G' p (.tup [y, .bl (decide (V.int d = V.int 0))]) = G6 at b6 hl6 hfs6 gf6
    generalize upd H5 p (.tup [y, .bl (decide (V.int d = V.int 0))]) = H6 at b6 hf6
    have xl := dta_len hfs6
    refine ⟨_, rfl, _, rfl, f, xs, fs, dl, rfl, .inl hf6, ex_dta b6.ge hfs6, lits_keys hl, ex_dt b6.ge _ _ hl6, (lit_key ld).1, by have := (lit_key ld).2.1; omega, _, rfl, ?_⟩
    rw [if_pos rfl]
    refine ite2 (fun h1 => ?_) (fun h1 => ?_)
    · have h1 : dl ∉ fs := fun z => by rw [(any_eqv hl ld).mpr z] at h1; cases h1
      refine ⟨_, rfl, .inl ⟨rfl, _, SqL.of hf6⟩, _, rfl, f, xs, _, rfl, rfl, hf6, Nat.lt_of_le_of_lt (show xs.length ≤ 100 by omega) (sz _ (by omega)), ?_⟩
      refine ⟨_, _, G6, xs ++ [.ref p], fs ++ [dl], rfl, b6.mut hf gf6, gf6, upd_same, Hx.dta_app hfs6 (.cons hl6 .nil), ?_, ?_, by simp; omega, fun _ => by simp⟩
      · intro x hx
        rcases List.mem_append.mp hx with hx | hx
        · exact hl x hx
        · rw [List.mem_singleton.mp hx]; exact ld
      · rw [List.nodup_append]
        exact ⟨nd, by simp, fun x hx y hy e => by rw [List.mem_singleton] at hy; rw [e, hy] at hx; exact h1 hx⟩
    · have h1 : dl ∈ fs := (any_eqv hl ld).mp (by cases e : (fs.any fun e => PyData.eqv e dl) with | true => rfl | false => rw [e] at h1; exact absurd rfl h1)
      exact ⟨_, _, G6, xs, fs, rfl, b6, gf6, hf6, hfs6, hl, nd, by omega, fun _ => List.length_pos_of_mem h1⟩
  · rintro σ' H' ⟨tv, lv, G', xs, fs, rfl, b, gf, hf', hfs, hl, nd, hz, hz1⟩
    have xl := dta_len hfs
    refine ⟨_, rfl, f, xs, fs, G', rfl, hf', b.ge, hfs, lits_keys hl, lits_alike hl, lits_sortable hl, lits_depth hl, fun p ys hp hy hyl => ?_⟩
    refine ⟨p, ys, rfl, .inl ⟨SqL.of upd_same, fun t ht => ?_⟩⟩
    have b2 := (b.lay hp (o := .lst ys)).new ht (o := .tup ys)
    have e2 : Ex G' (upd G' t (.tup ys)) := (b.lay hp (o := .lst ys)).fr ht
    have hm : m = ((m.toNat : Nat) : Int) := by omega
    refine q _ _ _ _ b2 (.tup upd_same (ex_dta e2 hy)) (row_sort hl nd) ?_ ?_
    · rw [List.length_mergeSort]; exact hz1 (by omega)
    · rw [List.length_mergeSort]; omega
end
end K21
namespace K21
open PySem PySem.Spec PyProof.Rows L2 Hx Hd
open Evl (pss_cut tCut ex_l ex_t)
open M21
theorem dta_perm {G : Hp} : ∀ {ys us : List V}, ys.Perm us → ∀ {ds : List PyData}, DtAll G us ds → ∃ ds', ds'.Perm ds ∧ DtAll G ys ds' := by
  intro ys us h
  induction h with
  | nil => intro ds k; exact ⟨ds, List.Perm.refl _, k⟩
  | cons x h ih =>
    intro ds k
    cases k with
    | cons k1 k2 =>
      obtain ⟨ds', p, k3⟩ := ih k2
      exact ⟨_ :: ds', p.cons _, .cons k1 k3⟩
  | swap x y l =>
    intro ds k
    cases k with
    | cons k1 k2 =>
      cases k2 with
      | cons k2 k3 => exact ⟨_ :: _ :: _, List.Perm.swap _ _ _, .cons k2 (.cons k1 k3)⟩
  | trans h1 h2 ih1 ih2 =>
    intro ds k
    obtain ⟨d1, p1, k1⟩ := ih2 k
    obtain ⟨d2, p2, k2⟩ := ih1 k1
    exact ⟨d2, p2.trans p1, k2⟩
theorem dta_take {G : Hp} : ∀ {us : List V} {ds : List PyData} (k : Nat), DtAll G us ds → DtAll G (us.take k) (ds.take k)
  | [], _, k, h => by cases h; simp; exact .nil
  | u :: us, _, 0, h => by cases h; exact .nil
  | u :: us, _, k + 1, h => by
    cases h with
    | cons h1 h2 => exact .cons h1 (dta_take k h2)
theorem dta_drop {G : Hp} : ∀ {us : List V} {ds : List PyData} (k : Nat), DtAll G us ds → DtAll G (us.drop k) (ds.drop k)
  | us, ds, 0, h => h
  | [], _, k + 1, h => by cases h; exact .nil
  | u :: us, _, k + 1, h => by
    cases h with
    | cons h1 h2 => exact dta_drop k h2
def RowsN (rs : Rws) : Prop := ∀ r ∈ rs, rowD (.tuple r) = true ∧ r.length ≤ 6
def LitsN (ls : List PyData) : Prop := (∀ l ∈ ls, litD l = true) ∧ (ls.map fun d => nk (fstD d)).Nodup
theorem LitsN.lits {ls : List PyData} (h : LitsN ls) : litsD (.list ls) = true := by
  show (ls.all litD && decide _) = true
  rw [Bool.and_eq_true, List.all_eq_true]
  exact ⟨h.1, decide_eq_true h.2⟩
section
variable {P : Program} {w : World} {K : PySem.W.Frag} {mg : Str → Option Value} {base : Heap}
def spClauses : Sp := fun vs H Q _ => ∃ (s L a : Addr) (us : List V) (ds : List PyData) (up : Nat) (G : Hp), vs = [.ref s, .ref a, .int up] ∧ Strm H s L ∧ Ex G H ∧ G s = none ∧ G a = some (.lst us) ∧ DtAll G us ds ∧ AtomsN ds ∧ 1 ≤ ds.length ∧ up ≤ 40 ∧
  ∀ p xs rs G2 H2, Ga s L G H G2 H2 → G2 p = some (.lst xs) → DtAll G2 xs (rs.map PyData.tuple) → RowsN rs → rs.length ≤ up → Q (.ref p) H2
abbrev N_law_clauses : List Str := ["stream", "atoms", "upto", "found", "turn", "kind"]
theorem sc_law_clauses : FnScope N_law_clauses ["stream", "atoms", "upto"] (defScope (top 46)) := ⟨rfl, rfl, rfl, by decide +kernel, rfl, by decide +kernel, by decide +kernel⟩
theorem ok_clauses (T : Txt K mg) (C__law_next : Cal P w K mg base CX0 1 "_law_next" ["stream", "many"] spNext) (C__law_clause : Cal P w K mg base CX0 3 "_law_clause" ["stream", "atoms", "low", "high"] spClause) : Cal P w K mg base CX0 4 "_law_clauses" ["stream", "atoms", "upto"] spClauses := by
  refine mkCal T.g__law_clauses T.d__law_clauses sc_law_clauses (fun _ _ _ _ _ _ us hl => match us, hl with | [_, _, _], _ => rfl) (fun vs H Q E h => ?_) fun cdv A outer s0 H vs Q E hr h => ?_
  · obtain ⟨_, _, _, _, _, _, _, rfl, _⟩ := h; rfl
  obtain ⟨s, L, a, us, ds, up, G, rfl, st, eG, gs, hus, hds, hat, hn, hup, q⟩ := h
  refine ⟨_, (pss_cons (ps_set (i := 3) sc_law_clauses.nd rfl (Or.inl rfl) (pe_lst pa_nil))
      (pss_cons (ps_for PassesOwn.never rfl (pi_range1 (by rfl) T.n_range (pa_cons (pe_cal (E := E0) C__law_next (hr.mono (by decide)) pass0 (pa_cons (pv 0) (pa_cons (pe_op op_add (pv 2) pe_int) pa_nil))) pa_nil)) (pg_name (i := 4) sc_law_clauses.nd rfl (Or.inl rfl)) (pss_cons (ps_set (i := 5) sc_law_clauses.nd rfl (Or.inl rfl) (pe_cal (E := E0) C__law_next (hr.mono (by decide)) pass0 (pa_cons (pv 0) (pa_cons pe_int pa_nil))))
      (pss_one (ps_if (pt_cmpR op_eq (pv 5) pe_int (nomark _)) (pss_one (ps_expr (pe_bm PySem.F.plainAttrs_list PySem.F.slot_list_append PySem.F.type_list_append mt_append (pv 3) (pa_cons (pe_tup pa_nil) pa_nil)))) (pss_one (ps_if (pt_cmpR op_lt (pv 5) pe_int (nomark _)) (pss_one (ps_expr (pe_bm PySem.F.plainAttrs_list PySem.F.slot_list_append PySem.F.type_list_append mt_append (pv 3) (pa_cons (pe_cal (E := E0) C__law_clause (hr.mono (by decide)) pass0 (pa_cons (pv 0) (pa_cons (pv 1) (pa_cons pe_int (pa_cons pe_int pa_nil))))) pa_nil)))) (pss_one (ps_expr (pe_bm PySem.F.plainAttrs_list PySem.F.slot_list_append PySem.F.type_list_append mt_append (pv 3) (pa_cons (pe_cal (E := E0) C__law_clause (hr.mono (by decide)) pass0 (pa_cons (pv 0) (pa_cons (pv 1) (pa_cons pe_int (pa_cons (pe_ifExp (pt_cmpR op_lt (pv 5) pe_int (nomark _)) pe_int pe_int) pa_nil))))) pa_nil))))))))))
      (pss_one (ps_ret (pv 3))))), ?_⟩
  refine ⟨szl 0 (by omega), fun f hf => ?_⟩
  have ga := (Ga.refl eG st gs).lay hf (o := .lst [])
  have nfs := st.free f hf
  have hf1 : upd H f (.lst []) f = some (.lst []) := upd_same
  have g1 : G f = none := Evl.fresh_back eG hf
  generalize upd H f (.lst []) = H1 at ga hf1
  refine ⟨_, rfl, _, rfl, _, 1, rfl, rfl, s, L, (up : Int) + 1, rfl, ga.st, by omega, by omega, fun m H2 m0 m1 kp2 st2 => ?_⟩
  have ga2 := ga.next kp2 st2
  have hf2 := kp2 f _ nfs hf1
  refine ⟨m, rfl, by omega, by omega, ?_⟩
  refine for_it walk_range (fun i σ' H' => ∃ tv lv G' xs rs, σ' = [some (.ref s), some (.ref a), some (.int up), some (.ref f), tv, lv] ∧ Ga s L G H G' H' ∧ G' f = none ∧ H' f = some (.lst xs) ∧ DtAll G' xs (rs.map PyData.tuple) ∧ RowsN rs ∧ rs.length = i)
    ⟨none, none, G, [], [], rfl, ga2, g1, hf2, .nil, (fun x h => by cases h), rfl⟩ (fun _ _ _ _ _ => trivial) ?_ ?_
  · rintro i x σ' H' H'' hi' ⟨tv, lv, G', xs, rs, rfl, b, gf, hf', hfs, hl, hz⟩ ⟨rfl, rfl⟩
    have xl := dta_len hfs
    rw [List.length_map] at xl
    have hxz : xs.length < sizeLine := Nat.lt_of_le_of_lt (show xs.length ≤ 100 by omega) (sz _ (by omega))
    have fin : ∀ (y : V) (r : List PyData) (kd : V) (i2 : V) (G2 H2 : Hp), Ga s L G' H'' G2 H2 → Dt G2 y (.tuple r) → rowD (.tuple r) = true → r.length ≤ 6 → H2 f = some (.lst xs) ∧ ∃ tv lv G3 xs' rs', [some (V.ref s), some (V.ref a), some (V.int up), some (V.ref f), some i2, some kd] = [some (.ref s), some (.ref a), some (.int up), some (.ref f), tv, lv] ∧ Ga s L G H G3 (upd H2 f (.lst (xs ++ [y]))) ∧ G3 f = none ∧ (upd H2 f (.lst (xs ++ [y]))) f = some (.lst xs') ∧ DtAll G3 xs' (rs'.map PyData.tuple) ∧ RowsN rs' ∧ rs'.length = i + 1 := fun y r kd i2 G2 H2 c hy hr hr6 => by
      have hf2 := c.keep nfs hf'
      have gf2 := c.gn hf' gf
      refine ⟨hf2, _, _, G2, xs ++ [y], rs ++ [r], rfl, (b.trans c).mut hf gf2, gf2, upd_same, by rw [List.map_append]; exact Hx.dta_app (ex_dta c.gg hfs) (.cons hy .nil), fun z hz => ?_, by simp [hz]⟩
      rcases List.mem_append.mp hz with hz | hz
      · exact hl z hz
      · rw [List.mem_singleton.mp hz]; exact ⟨hr, hr6⟩
    refine ⟨_, rfl, s, L, 40, rfl, b.st, by decide, by decide, fun kd H3 k0 k1 kp3 st3 => ?_⟩
    have b3 := (Ga.refl b.ge b.st b.gs).next kp3 st3
    have ha3 := b3.ge _ _ (b.gg _ _ hus)
    have ba : Ga s L G H G' H3 := b.next kp3 st3
    have hf3 := kp3 f _ nfs hf'
    refine ⟨_, rfl, rfl, _, rfl, ?_⟩
    refine ite2 (fun _ => ?_) (fun _ => ?_)
    · refine ⟨_, rfl, .inl ⟨rfl, _, SqL.of hf3⟩, szl 0 (by omega), fun p hp => ?_⟩
      obtain ⟨h1, h2⟩ := fin (.ref p) [] (.int kd) (.int (0 + (i : Int))) _ _ (b3.new hp (o := .tup [])) (.tup upd_same .nil) rfl (by simp)
      exact ⟨f, xs, _, rfl, rfl, h1, hxz, h2⟩
    refine ⟨_, rfl, kd, 5, rfl, rfl, _, rfl, ?_⟩
    refine ite2 (fun _ => ?_) (fun _ => ?_)
    · refine ⟨_, rfl, .inl ⟨rfl, _, SqL.of hf3⟩, _, rfl, _, rfl, s, L, a, us, ds, 1, 1, G', rfl, st3, b3.ge, b.gs, b.gg _ _ hus, ex_dta b.gg hds, hat, hn, by omega, by omega, by omega, fun y r G4 H4 c hy hr hr1 hr2 => ?_⟩
      obtain ⟨h1, h2⟩ := fin y r (.int kd) (.int (0 + (i : Int))) _ _ (b3.trans c) hy hr (by omega)
      exact ⟨f, xs, _, rfl, rfl, h1, hxz, h2⟩
    · refine ⟨_, rfl, .inl ⟨rfl, _, SqL.of hf3⟩, _, rfl, _, rfl, _, rfl, kd, 36, rfl, rfl, _, rfl, ?_⟩
      refine ite2 (fun _ => ?_) (fun _ => ?_)
      · refine ⟨s, L, a, us, ds, 2, 3, G', rfl, st3, b3.ge, b.gs, b.gg _ _ hus, ex_dta b.gg hds, hat, hn, by omega, by omega, by omega, fun y r G4 H4 c hy hr hr1 hr2 => ?_⟩
        obtain ⟨h1, h2⟩ := fin y r (.int kd) (.int (0 + (i : Int))) _ _ (b3.trans c) hy hr (by omega)
        exact ⟨f, xs, _, rfl, rfl, h1, hxz, h2⟩
      · refine ⟨s, L, a, us, ds, 2, 6, G', rfl, st3, b3.ge, b.gs, b.gg _ _ hus, ex_dta b.gg hds, hat, hn, by omega, by omega, by omega, fun y r G4 H4 c hy hr hr1 hr2 => ?_⟩
        obtain ⟨h1, h2⟩ := fin y r (.int kd) (.int (0 + (i : Int))) _ _ (b3.trans c) hy hr (by omega)
        exact ⟨f, xs, _, rfl, rfl, h1, hxz, h2⟩
  · rintro σ' H' ⟨tv, lv, G', xs, rs, rfl, b, gf, hf', hfs, hl, hz⟩
    exact ⟨_, rfl, q f xs rs _ _ (b.fix hf hf') upd_same (ex_dta (Evl.Ex.new gf) hfs) hl (by omega)⟩
def spSome : Sp := fun vs H Q _ => ∃ (s L a : Addr) (us : List V) (ds : List PyData) (up : Nat) (G : Hp), vs = [.ref s, .ref a, .int up] ∧ Strm H s L ∧ Ex G H ∧ G s = none ∧ G a = some (.lst us) ∧ DtAll G us ds ∧ AtomsN ds ∧ up ≤ ds.length ∧
  ∀ p xs ls G2 H2, Ga s L G H G2 H2 → G2 p = some (.lst xs) → DtAll G2 xs ls → LitsN ls → ls.length ≤ up → Q (.ref p) H2
abbrev N_law_some : List Str := ["stream", "atoms", "upto", "atom"]
theorem sc_law_some : FnScope N_law_some ["stream", "atoms", "upto"] (defScope (top 47)) := ⟨rfl, rfl, rfl, by decide +kernel, rfl, by decide +kernel, by decide +kernel⟩
theorem ok_someL (T : Txt K mg) (C__law_next : Cal P w K mg base CX0 1 "_law_next" ["stream", "many"] spNext) (C__law_shuffled : Cal P w K mg base CX0 2 "_law_shuffled" ["stream", "rows"] (spShuf K)) : Cal P w K mg base CX0 3 "_law_some" ["stream", "atoms", "upto"] spSome := by
  refine mkCal T.g__law_some T.d__law_some sc_law_some (fun _ _ _ _ _ _ us hl => match us, hl with | [_, _, _], _ => rfl) (fun vs H Q E h => ?_) fun cdv A outer s0 H vs Q E hr h => ?_
  · obtain ⟨_, _, _, _, _, _, _, rfl, _⟩ := h; rfl
  obtain ⟨s, L, a, us, ds, up, G, rfl, st, eG, gs, hus, hds, hat, hup, q⟩ := h
  refine ⟨_, (pss_one (ps_ret (pe_lc (own := [("atom", 3)]) (g := gName 3) rfl sc_law_some.nd (piL (K := K) (pe_slice (slL (K := K)) (pe_cal (E := E0) C__law_shuffled (hr.mono (by decide)) pass0 (pa_cons (pv 0) (pa_cons (pv 1) pa_nil))) po_none (po_some (pe_cal (E := E0) C__law_next (hr.mono (by decide)) pass0 (pa_cons (pv 0) (pa_cons (pe_op op_add (pv 2) pe_int) pa_nil)))))) (blkOk_by (N := N_law_some) (sc := defScope (top 47)) (by decide +kernel)) (fun _ _ _ _ _ => (pg_name (i := 3) sc_law_some.nd rfl (Or.inl rfl))) (fun _ _ _ _ _ => pts_nil) (fun _ _ _ _ _ => (pe_tup (pa_cons (pv 3) (pa_cons (pe_cmpR op_eq (pe_cal (E := E0) C__law_next (hr.mono (by decide)) pass0 (pa_cons (pv 0) (pa_cons pe_int pa_nil))) pe_int (nomark _)) pa_nil))))))), ?_⟩
  have ul := dta_len hds
  have un := hat.1
  have nas : a ≠ s := fun e => by rw [e, gs] at hus; cases hus
  refine ⟨_, rfl, _, rfl, s, L, a, us, rfl, st, SqL.of (eG _ _ hus), nas, by omega, fun p ys H2 hp kp2 st2 hp2 pm => ?_⟩
  have ga := ((Ga.refl eG st gs).next kp2 st2).fix hp hp2
  have nps := st.free p hp
  obtain ⟨ds', pd, hys⟩ := dta_perm pm hds
  have hys := ex_dta (Evl.Ex.new (p := p) (o := .lst ys) (Evl.fresh_back eG hp)) hys
  have yl := dta_len hys
  have pl := pd.length_eq
  refine ⟨_, rfl, _, rfl, _, 1, rfl, rfl, s, L, (up : Int) + 1, rfl, st2, by omega, by omega, fun d H3 d0 d1 kp3 st3 => ?_⟩
  have ga3 := ga.next kp3 st3
  obtain ⟨k, rfl⟩ : ∃ k : Nat, d = (k : Int) := ⟨d.toNat, by omega⟩
  have hp3 : H3 p = some (.lst ys) := kp3 p _ nps hp2
  refine ⟨k, rfl, p, ys, rfl, SqL.of hp3, fun z hz => ?_⟩
  rw [cut_to (by omega)]
  have ga4 := ga3.new hz (o := .lst (ys.take k))
  have e4 : Ex _ _ := ga3.fr hz (o := .lst (ys.take k))
  have hz4 : upd (upd G p (.lst ys)) z (.lst (ys.take k)) z = some (.lst (ys.take k)) := upd_same
  have hys4 := dta_take k (ex_dta e4 hys)
  generalize upd (upd G p (.lst ys)) z (.lst (ys.take k)) = G4 at ga4 hz4 hys4
  generalize upd H3 z (.lst (ys.take k)) = H4 at ga4
  have tl : (ys.take k).length = k := by rw [List.length_take]; omega
  refine ⟨z, rfl, ⟨_, SqL.of (ga4.ge _ _ hz4)⟩, fun D hD => ?_⟩
  refine lcGa walk_list ga4 (fun G' H' a e => SqL.of (a.ge _ _ (e _ _ hz4))) (by omega) (fun i v G => ∃ b : Bool, Dt G v (.tuple [ds'.getD i .none, .bool b])) (fun i v G G' e ⟨b, h⟩ => ⟨b, ex_dt e _ _ h⟩) (fun i => [some (.ref s), some (.ref a), some (.int up), some ((ys.take k).getD i .non)])
    (fun i x G' H' H'' hi a e yy Q q => ?_) (fun _ _ => rfl) (fun i G' H' hi b e Q q => ?_) (fun i x G' H' H'' hi a yy => yy.1) hD (fun zs G' H' b e hp hl hr => ?_)
  · obtain ⟨rfl, hx⟩ := yy
    have : (ys.take k).getD i .non = x := by rw [List.getD_eq_getElem?_getD, hx]; rfl
    have q := q rfl
    rw [this] at q
    exact q
  · have hx : (ys.take k)[i]? = some ((ys.take k).getD i .non) := by rw [List.getD_eq_getElem?_getD, List.getElem?_eq_getElem hi]; rfl
    obtain ⟨di, hdi, hti⟩ := dta_get (ex_dta e hys4) hx
    have hgd : ds'.getD i .none = di := by
      rw [List.getElem?_take, if_pos (by omega)] at hdi
      rw [List.getD_eq_getElem?_getD, hdi]; rfl
    refine ⟨_, rfl, _, rfl, s, L, 2, rfl, b.st, by decide, by decide, fun dd H5 _ _ kp5 st5 => ⟨rfl, szl 2 (by omega), fun t ht => ?_⟩⟩
    have b5 := (Ga.refl b.ge b.st b.gs).next kp5 st5
    refine q _ _ _ (b5.new ht) ⟨decide (V.int dd = V.int 0), ?_⟩
    rw [hgd]
    exact .tup upd_same (.cons (ex_dt (b5.fr ht) _ _ hti) (.cons (.bl _) .nil))
  · obtain ⟨ls, h1, h2⟩ := r_ex (Pr := fun i d => ∃ b : Bool, d = .tuple [ds'.getD i .none, .bool b]) fun i y hy => by
      obtain ⟨b, h⟩ := hr i y hy
      exact ⟨_, h, b, rfl⟩
    have hll := dta_len h1
    have hmem : ∀ i, i < k → ds'.getD i .none ∈ ds := fun i hi => by
      have : i < ds'.length := by omega
      rw [List.getD_eq_getElem?_getD, List.getElem?_eq_getElem this]
      exact pd.mem_iff.mp (List.getElem_mem this)
    have hlm : ls.map (fun d => nk (fstD d)) = (ds'.take k).map nk := by
      apply List.ext_getElem?
      intro i
      rw [List.getElem?_map, List.getElem?_map]
      by_cases hi : i < k
      · have h3 : i < ls.length := by omega
        obtain ⟨b, e⟩ := h2 i _ (List.getElem?_eq_getElem h3)
        rw [List.getElem?_eq_getElem h3, e, List.getElem?_take, if_pos hi, List.getElem?_eq_getElem (show i < ds'.length by omega)]
        show some (nk (ds'.getD i .none)) = some (nk _)
        rw [List.getD_eq_getElem?_getD, List.getElem?_eq_getElem (show i < ds'.length by omega)]
        rfl
      · rw [List.getElem?_eq_none (show ls.length ≤ i by omega), List.getElem?_eq_none (show (ds'.take k).length ≤ i by rw [List.length_take]; omega)]; rfl
    refine q D zs ls G' H' b hp h1 ⟨fun l hl' => ?_, ?_⟩ (by omega)
    · obtain ⟨i, hi⟩ := List.getElem?_of_mem hl'
      obtain ⟨b, rfl⟩ := h2 i l hi
      have := (List.getElem?_eq_some_iff.mp hi).1
      exact lit_mk (hat.at (hmem i (by omega)))
    · rw [hlm]
      have nd := (pd.map nk).nodup_iff.mpr hat.nodup
      exact nd.sublist ((List.take_sublist k ds').map nk)
end
end K21
namespace K21
open PySem PySem.Spec PyProof.Rows L2 Hx Hd
open Evl (pss_cut tCut ex_l ex_t)
open M21

def dlook (es : List (PyData × PyData)) (z : Str) : Option PyData := (es.find? fun q => match q.1 with | .str y => decide (y = z) | _ => false).map (·.2)
theorem dkv_look : ∀ {kvs : List (Key × V)} {es : List (PyData × PyData)}, DKV kvs es → ∀ z : Str, (valV kvs (Sum.inr z) = none ∧ dlook es z = none) ∨ ∃ v d, valV kvs (Sum.inr z) = some v ∧ dlook es z = some d ∧ FV v d
  | [], _, h, z => by cases h; exact .inl ⟨rfl, rfl⟩
  | p :: kvs, _, h, z => by
    cases h with
    | cons r t =>
      rename_i q es
      obtain ⟨y, h1, h2, h3⟩ := r
      by_cases hy : y = z
      · refine .inr ⟨p.2, q.2, valV_pos (by rw [h1, hy]), ?_, h3⟩
        unfold dlook
        rw [List.find?_cons, h2, show (match PyData.str y with | .str y => decide (y = z) | _ => false) = true from decide_eq_true hy]
        rfl
      · have e1 : valV (p :: kvs) (Sum.inr z) = valV kvs (Sum.inr z) := valV_neg (by rw [h1]; exact fun e => hy (Sum.inr.inj e))
        have e2 : dlook (q :: es) z = dlook es z := by
          unfold dlook
          rw [List.find?_cons, h2, show (match PyData.str y with | .str y => decide (y = z) | _ => false) = false from decide_eq_false hy]
        rw [e1, e2]
        exact dkv_look t z
mutual
def nodes : PyData → Nat
  | .list ds => nodesL ds + 1
  | .tuple ds => nodesL ds + 1
  | .dict es => es.length + 1
  | _ => 1
def nodesL : List PyData → Nat
  | [] => 0
  | d :: ds => nodes d + nodesL ds
end
theorem nodes_pos : ∀ d, 1 ≤ nodes d
  | .none => by simp [nodes]
  | .bool _ => by simp [nodes]
  | .int _ => by simp [nodes]
  | .str _ => by simp [nodes]
  | .list ds => by simp [nodes]
  | .tuple ds => by simp [nodes]
  | .dict es => by simp [nodes]
theorem nodesL_app : ∀ (a b : List PyData), nodesL (a ++ b) = nodesL a + nodesL b
  | [], b => by simp [nodesL]
  | d :: a, b => by rw [List.cons_append, nodesL, nodesL, nodesL_app a b]; omega
theorem nodesL_len : ∀ (a : List PyData), a.length ≤ nodesL a
  | [] => by simp
  | d :: a => by
    have := nodesL_len a
    have := nodes_pos d
    rw [nodesL, List.length_cons]
    omega
theorem pss_no {X : Cx} {st : List Stmt} : PSs X st (fun _ _ _ => False) := ⟨fun _ _ _ _ _ _ h => h.elim⟩
theorem isi_k {K : PySem.W.Frag} {H : Hp} {v : V} {tn T : String} {b : Bool} {Q : VK} (t : TyX K H v (.type tn)) (k : kitB tn T = some b) (q : Q (.bl b) H) : rIsi K [v, .ty T] H Q :=
  ⟨v, .ty T, .type tn, .type T, _, rfl, .ty T, t, kit_ty k, q⟩
theorem paired_last {α β : Type} {F : α → β → Prop} : ∀ {as : List α} {bs : List β}, Paired F as bs → as ≠ [] → ∃ ai a bi b, as = ai ++ [a] ∧ bs = bi ++ [b] ∧ Paired F ai bi ∧ F a b
  | [], _, .nil, h => absurd rfl h
  | a :: as, b :: bs, .cons r t, _ => by
    by_cases h : as = []
    · subst h
      cases t
      exact ⟨[], a, [], b, rfl, rfl, .nil, r⟩
    · obtain ⟨ai, a', bi, b', rfl, rfl, p, f⟩ := paired_last t h
      exact ⟨a :: ai, a', b :: bi, b', rfl, rfl, .cons r p, f⟩
theorem ne_self {x : V} : V.bl (!decide (x = x)) = V.bl false := by simp
/-- a pair of two of the same data -/
abbrev Pr2 (G : Hp) (v : V) (d : PyData) : Prop := ∃ r x y, v = .ref r ∧ G r = some (.tup [x, y]) ∧ Dt G x d ∧ Dt G y d
theorem pr2_mono {G G' : Hp} (e : Ex G G') {v : V} {d : PyData} (h : Pr2 G v d) : Pr2 G' v d := by
  obtain ⟨r, x, y, rfl, h1, h2, h3⟩ := h
  exact ⟨r, x, y, rfl, e _ _ h1, ex_dt e _ _ h2, ex_dt e _ _ h3⟩
theorem sel_pr {G : Hp} {ds : List PyData} {zs : List V} (h : Sel (fun j y G => Pr2 G y (ds.getD j .none)) (fun _ => true) ds.length zs G) : Paired (Pr2 G) zs ds := by
  have gen : ∀ {as : List Nat} {bs : List V}, Paired (fun j y => Pr2 G y (ds.getD j .none)) as bs → Paired (Pr2 G) bs (as.map fun j => ds.getD j .none) := by
    intro as bs p
    induction p with
    | nil => exact .nil
    | cons r t ih => exact .cons r ih
  have z := gen h
  rw [List.filter_eq_self.mpr fun _ _ => rfl] at z
  have e : (List.range ds.length).map (fun j => ds.getD j PyData.none) = ds := by
    apply List.ext_getElem
    · simp
    · intro i h1 h2
      simp [List.getD_eq_getElem?_getD, h2]
  rw [e] at z
  exact z
theorem dkv_key : ∀ {kvs : List (Key × V)} {es : List (PyData × PyData)}, DKV kvs es → ∀ {i : Nat} {k : Key} {v : V}, kvs[i]? = some (k, v) → ∃ z, k = Sum.inr z ∧ (valV kvs k).isSome = true
  | [], _, _, i, k, v, h => by cases h
  | p :: kvs, _, .cons r t, i, k, v, h => by
    obtain ⟨z, h1, h2, h3⟩ := r
    cases i with
    | zero =>
      have e : p = (k, v) := Option.some.inj h
      subst e
      exact ⟨z, h1, by rw [valV_pos rfl]; rfl⟩
    | succ i =>
      obtain ⟨z', e, hs⟩ := dkv_key t (i := i) (k := k) (v := v) h
      refine ⟨z', e, ?_⟩
      by_cases hk : p.1 = k
      · rw [valV_pos hk]; rfl
      · rw [valV_neg hk]; exact hs
theorem dkv_both {kx ky : List (Key × V)} {es : List (PyData × PyData)} (hx : DKV kx es) (hy : DKV ky es) {i : Nat} {k : Key} {v : V} (h : ky[i]? = some (k, v)) : ∃ z vx vy d, k = Sum.inr z ∧ valV kx k = some vx ∧ valV ky k = some vy ∧ FV vx d ∧ FV vy d := by
  obtain ⟨z, rfl, hs⟩ := dkv_key hy h
  rcases dkv_look hy z with ⟨e1, _⟩ | ⟨vy, d, e1, e2, f⟩
  · rw [e1] at hs; cases hs
  · rcases dkv_look hx z with ⟨_, e4⟩ | ⟨vx, d', e3, e4, f'⟩
    · rw [e2] at e4; cases e4
    · rw [e2] at e4
      obtain rfl := Option.some.inj e4
      exact ⟨z, vx, vy, d, rfl, e3, e1, f', f⟩
theorem fv_dt {H : Hp} {v : V} {d : PyData} (h : FV v d) : Dt H v d := by
  cases h with
  | int i => exact .int i
  | bl b => exact .bl b
theorem fv_one {v : V} {d : PyData} (h : FV v d) : nodes d = 1 := by cases h <;> simp [nodes]
theorem dget_kr {H : Hp} {a : Addr} {kvs : List (Key × V)} {k : Key} (e : Rd H a (.dK kvs)) : DGet H a (kV k) (valV kvs k) := .inl ⟨kvs, k, e, rfl, rfl⟩
theorem turn_key {M : Addr → Prop} {G H : Hp} {kvs : List (Key × V)} {j i : Nat} {x : V} {k : Key} {v : V} {G' H' H'' : Hp} {σ0 : L2.St} {Q : L2.St → Hp → Prop} (a : Stp M G H G' H') (y : H'' = H' ∧ ∃ k v, kvs[i]? = some (k, v) ∧ x = kV k) (hv : kvs[i]? = some (k, v)) (q : ∀ G2 H2, Stp M G' H' G2 H2 → Q (σ0.set j (some (kV k))) H2) : gName j x σ0 H'' Q := by
  obtain ⟨rfl, k', v', hk, rfl⟩ := y
  rw [hv] at hk
  have e := Option.some.inj hk
  injection e with e1 e2
  subst e1
  exact q G' _ (Stp.refl a.gh)
section
variable {P : Program} {w : World} {K : PySem.W.Frag} {mg : Str → Option Value} {base : Heap}
def spSame (K : PySem.W.Frag) : Sp := fun vs H Q _ => ∃ x y d, vs = [x, y] ∧ Dt H x d ∧ Dt H y d ∧ nodes d ≤ 100000 ∧ ∀ H2, Ex H H2 → Q (.bl true) H2
abbrev N_law_same : List Str := ["actual", "due", "left", "turn", "one", "other", "at", "key"]
theorem sc_law_same : FnScope N_law_same ["actual", "due"] (defScope (top 36)) := ⟨rfl, rfl, rfl, by decide +kernel, rfl, by decide +kernel, by decide +kernel⟩
theorem ok_same (T : Txt K mg) : Cal P w K mg base CX0 1 "_law_same" ["actual", "due"] (spSame K) := by
  refine mkCal T.g__law_same T.d__law_same sc_law_same (fun _ _ _ _ _ _ us hl => match us, hl with | [_, _], _ => rfl) (fun vs H Q E h => ?_) fun cdv A outer s H vs Q E hr h => ?_
  · obtain ⟨x, _, d, rfl, _⟩ := h; rfl
  obtain ⟨x0, y0, d0, rfl, hx0, hy0, hsz, q⟩ := h
  refine ⟨_, (pss_cons (ps_set (i := 2) sc_law_same.nd rfl (Or.inl rfl) (pe_lst (pa_cons (pe_tup (pa_cons (pv 0) (pa_cons (pv 1) pa_nil))) pa_nil)))
      (pss_cons (ps_for PassesOwn.never rfl (pi_range1 (by rfl) T.n_range (pa_cons (pe_op op_pow pe_int pe_int) pa_nil)) (pg_name (i := 3) sc_law_same.nd rfl (Or.inl rfl)) (pss_cons (ps_if (pt_cmpR op_eq (pe_callB (lenL (K := K)) (by rfl) T.n_len PySem.boot_len (pa_cons (pv 2) pa_nil)) pe_int (nomark _)) (pss_one (ps_ret pe_bl)) pss_nil)
      (pss_cons (ps_asg (pe_bm0 PySem.F.plainAttrs_list PySem.F.slot_list_pop PySem.F.type_list_pop mt_pop (pv 2)) (pgTup (K := K) rfl (pgs_cons (pg_name (i := 4) sc_law_same.nd rfl (Or.inr rfl)) (pgs_cons (pg_name (i := 5) sc_law_same.nd rfl (Or.inr rfl)) pgs_nil))))
      (pss_one (ps_if (PW.pt (pw_or (pt_val (pe_callB (isiR (K := K)) (by rfl) T.n_isinstance (by decide +kernel) (pa_cons (pv 5) (pa_cons (pe_bltn (v := .ty "tuple") rfl T.n_tuple (by decide +kernel) rfl) pa_nil)))) (pw_or1 (pt_val (pe_callB (isiR (K := K)) (by rfl) T.n_isinstance (by decide +kernel) (pa_cons (pv 5) (pa_cons (pe_bltn (v := .ty "list") rfl T.n_list (by decide +kernel) rfl) pa_nil))))))) (pss_cut (ps_if (PW.pt (pw_or (pt_cmpR op_ne (pe_callB (isiR (K := K)) (by rfl) T.n_isinstance (by decide +kernel) (pa_cons (pv 5) (pa_cons (pe_bltn (v := .ty "tuple") rfl T.n_tuple (by decide +kernel) rfl) pa_nil))) (pe_callB (isiR (K := K)) (by rfl) T.n_isinstance (by decide +kernel) (pa_cons (pv 4) (pa_cons (pe_bltn (v := .ty "tuple") rfl T.n_tuple (by decide +kernel) rfl) pa_nil))) (nomark _)) (pw_or (pt_cmpR op_ne (pe_callB (isiR (K := K)) (by rfl) T.n_isinstance (by decide +kernel) (pa_cons (pv 5) (pa_cons (pe_bltn (v := .ty "list") rfl T.n_list (by decide +kernel) rfl) pa_nil))) (pe_callB (isiR (K := K)) (by rfl) T.n_isinstance (by decide +kernel) (pa_cons (pv 4) (pa_cons (pe_bltn (v := .ty "list") rfl T.n_list (by decide +kernel) rfl) pa_nil))) (nomark _)) (pw_or1 (pt_cmpR op_ne (pe_callB (lenL (K := K)) (by rfl) T.n_len PySem.boot_len (pa_cons (pv 4) pa_nil)) (pe_callB (lenL (K := K)) (by rfl) T.n_len PySem.boot_len (pa_cons (pv 5) pa_nil)) (nomark _)))))) (pss_one (ps_ret pe_bl)) pss_nil)
      (pss_one (ps_expr (pe_bm PySem.F.plainAttrs_list PySem.F.slot_list_extend PySem.F.type_list_extend mt_extend (pv 2) (pa_cons (pe_lc (own := [("at", 6)]) (g := gName 6) rfl sc_law_same.nd (pi_range1 (by rfl) T.n_range (pa_cons (pe_callB (lenL (K := K)) (by rfl) T.n_len PySem.boot_len (pa_cons (pv 5) pa_nil)) pa_nil)) (blkOk_by (N := N_law_same) (sc := defScope (top 36)) (by decide +kernel)) (fun _ _ _ _ _ => (pg_name (i := 6) sc_law_same.nd rfl (Or.inl rfl))) (fun _ _ _ _ _ => pts_nil) (fun _ _ _ _ _ => (pe_tup (pa_cons (pe_ix (ixS (K := K)) (pv 4) (pv 6) (fun _ _ => rfl)) (pa_cons (pe_ix (ixS (K := K)) (pv 5) (pv 6) (fun _ _ => rfl)) pa_nil))))) pa_nil))))) (pss_one (ps_if (pt_val (pe_callB (isiR (K := K)) (by rfl) T.n_isinstance (by decide +kernel) (pa_cons (pv 5) (pa_cons (pe_bltn (v := .ty "dict") rfl T.n_dict (by decide +kernel) rfl) pa_nil)))) (pss_cut (ps_if (PW.pt (pw_or (pt_not (pt_val (pe_callB (isiR (K := K)) (by rfl) T.n_isinstance (by decide +kernel) (pa_cons (pv 4) (pa_cons (pe_bltn (v := .ty "dict") rfl T.n_dict (by decide +kernel) rfl) pa_nil))))) (pw_or (pt_cmpR op_ne (pe_callB call_lenK (by rfl) T.n_len PySem.boot_len (pa_cons (pv 4) pa_nil)) (pe_callB call_lenK (by rfl) T.n_len PySem.boot_len (pa_cons (pv 5) pa_nil)) (nomark _)) (pw_or1 (pt_cmpR op_gt (pe_callB (lenL (K := K)) (by rfl) T.n_len PySem.boot_len (pa_cons (pe_lock (pe_lc (own := [("key", 7)]) (g := gName 7) rfl sc_law_same.nd (pi_keys (pv 5)) (blkOk_by (N := N_law_same) (sc := defScope (top 36)) (by decide +kernel)) (fun _ _ _ _ _ => (pg_name (i := 7) sc_law_same.nd rfl (Or.inl rfl))) (fun _ _ _ _ _ => pts_one (pt_cmp (pc_dnotin (hu_of hr) (pv 7) (pv 4)))) (fun _ _ _ _ _ => (pv 7)))) pa_nil)) pe_int (nomark _)))))) (pss_one (ps_ret pe_bl)) pss_nil)
      (pss_one (ps_expr (pe_bm PySem.F.plainAttrs_list PySem.F.slot_list_extend PySem.F.type_list_extend mt_extend (pv 2) (pa_cons (pe_lock (pe_lc (own := [("key", 7)]) (g := gName 7) rfl sc_law_same.nd (pi_keys (pv 5)) (blkOk_by (N := N_law_same) (sc := defScope (top 36)) (by decide +kernel)) (fun _ _ _ _ _ => (pg_name (i := 7) sc_law_same.nd rfl (Or.inl rfl))) (fun _ _ _ _ _ => pts_nil) (fun _ _ _ _ _ => (pe_tup (pa_cons (pe_dget (hu_of hr) (pv 4) (pv 7) (fun _ _ => rfl)) (pa_cons (pe_dget (hu_of hr) (pv 5) (pv 7) (fun _ _ => rfl)) pa_nil)))))) pa_nil))))) (pss_one (ps_if (PW.pt (pw_or (pt_val (pe_callB (isiR (K := K)) (by rfl) T.n_isinstance (by decide +kernel) (pa_cons (pv 5) (pa_cons (pe_bltn (v := .ty "bool") rfl T.n_bool (by decide +kernel) rfl) pa_nil)))) (pw_or1 (pt_val (pe_callB (isiR (K := K)) (by rfl) T.n_isinstance (by decide +kernel) (pa_cons (pv 5) (pa_cons (pe_bltn (v := .ty "str") rfl T.n_str (by decide +kernel) rfl) pa_nil))))))) (pss_one (ps_if (PW.pt (pw_or (pt_cmpR op_ne (pe_callB (isiR (K := K)) (by rfl) T.n_isinstance (by decide +kernel) (pa_cons (pv 4) (pa_cons (pe_bltn (v := .ty "bool") rfl T.n_bool (by decide +kernel) rfl) pa_nil))) (pe_callB (isiR (K := K)) (by rfl) T.n_isinstance (by decide +kernel) (pa_cons (pv 5) (pa_cons (pe_bltn (v := .ty "bool") rfl T.n_bool (by decide +kernel) rfl) pa_nil))) (nomark _)) (pw_or (pt_cmpR op_ne (pe_callB (isiR (K := K)) (by rfl) T.n_isinstance (by decide +kernel) (pa_cons (pv 4) (pa_cons (pe_bltn (v := .ty "str") rfl T.n_str (by decide +kernel) rfl) pa_nil))) (pe_callB (isiR (K := K)) (by rfl) T.n_isinstance (by decide +kernel) (pa_cons (pv 5) (pa_cons (pe_bltn (v := .ty "str") rfl T.n_str (by decide +kernel) rfl) pa_nil))) (nomark _)) (pw_or1 (pt_cmpR op_ne (pv 4) (pv 5) (nomark _)))))) (pss_one (ps_ret pe_bl)) pss_nil)) (pss_one (ps_if (pt_val (pe_callB (isiR (K := K)) (by rfl) T.n_isinstance (by decide +kernel) (pa_cons (pv 5) (pa_cons (pe_bltn (v := .ty "int") rfl T.n_int (by decide +kernel) rfl) pa_nil)))) (pss_one (ps_if (PW.pt (pw_or (pt_not (pt_val (pe_callB (isiR (K := K)) (by rfl) T.n_isinstance (by decide +kernel) (pa_cons (pv 4) (pa_cons (pe_bltn (v := .ty "int") rfl T.n_int (by decide +kernel) rfl) pa_nil))))) (pw_or (pt_val (pe_callB (isiR (K := K)) (by rfl) T.n_isinstance (by decide +kernel) (pa_cons (pv 4) (pa_cons (pe_bltn (v := .ty "bool") rfl T.n_bool (by decide +kernel) rfl) pa_nil)))) (pw_or1 (pt_cmpR op_ne (pv 4) (pv 5) (nomark _)))))) (pss_one (ps_ret pe_bl)) pss_nil)) (pss_one (ps_if (pt_cmpR op_notN (pv 4) pe_non (nomark _)) (pss_one (ps_ret pe_bl)) pss_nil)))))))))))))
      (pss_one (ps_ret pe_bl)))), ?_⟩
  have hz : ∀ m : Nat, m ≤ 100000 → m ≤ sizeLine := fun m h => Nat.le_trans h (by decide)
  refine ⟨_, rfl, _, rfl, hz 2 (by omega), fun t ht => ⟨hz 1 (by omega), fun p hp => ?_⟩⟩
  have hp0 : H p = none := Evl.fresh_back (Evl.Ex.new ht) hp
  refine ⟨10, 9, rfl, rfl, ⟨by decide, by decide, by decide⟩, _, rfl, by decide +kernel, by decide +kernel, ?_⟩
  refine for_it walk_range (fun i σ' H' => ∃ tv ov uv G stk dsk, σ' = [some x0, some y0, some (.ref p), tv, ov, uv, none, none] ∧ Ex H G ∧ Ex G H' ∧ G p = none ∧ H' p = some (.lst stk) ∧ Paired (Pr2 G) stk dsk ∧ nodesL dsk + i = nodes d0)
    ⟨none, none, none, upd H t (.tup [x0, y0]), [.ref t], [d0], rfl, Evl.Ex.new ht, Evl.Ex.new hp, hp, upd_same, .cons ⟨t, x0, y0, rfl, upd_same, ex_dt (Evl.Ex.new ht) _ _ hx0, ex_dt (Evl.Ex.new ht) _ _ hy0⟩ .nil, by simp [nodesL]⟩ (fun _ _ _ _ _ => trivial) ?_ ?_
  · rintro i v σ' H' H'' hi ⟨tv, ov, uv, G, stk, dsk, rfl, eG, eH, gp, hp', pr, hsum⟩ ⟨rfl, rfl⟩
    refine ⟨_, rfl, p, stk, rfl, .inl (SqL.of hp'), rfl, _, rfl, ?_⟩
    rw [dec_int]
    have ens : ∀ (xs : List V), ((xs.length : Int) == 0) = true → xs = [] := fun xs h => List.eq_nil_of_length_eq_zero (by rw [beq_iff_eq] at h; omega)
    refine ite2 (fun h => q _ (eG.trans eH)) (fun hne => ?_)
    have hne' : stk ≠ [] := fun z => hne (by rw [z]; rfl)
    obtain ⟨ai, a, bi, d, rfl, rfl, pr', r, x, y, rfl, hr1, hx1, hy1⟩ := paired_last pr hne'
    have hlai : ai.length ≤ nodesL bi := by rw [pr'.length]; exact nodesL_len bi
    rw [nodesL_app] at hsum
    have hsum : nodesL bi + nodes d + i = nodes d0 := by simpa [nodesL] using hsum
    have hlast : (ai ++ [V.ref r])[(ai ++ [V.ref r]).length - 1]? = some (V.ref r) := by simp
    have hdl : (ai ++ [V.ref r]).dropLast = ai := by simp
    refine ⟨_, rfl, .inl ⟨rfl, _, SqL.of hp'⟩, p, _, V.ref r, rfl, rfl, hp', hlast, ?_⟩
    rw [hdl]
    have eH1 : Ex G (upd H'' p (.lst ai)) := fun b o hb => by
      rw [upd_ne (fun z => by rw [z, gp] at hb; cases hb)]; exact eH b o hb
    have hp1 : upd H'' p (.lst ai) p = some (.lst ai) := upd_same
    generalize upd H'' p (.lst ai) = H1 at eH1 hp1 ⊢
    refine ⟨r, [x, y], rfl, SqT.of (eH1 _ _ hr1), rfl, _, _, rfl, _, _, rfl, rfl, ?_⟩
    have hx := ex_dt eH1 _ _ hx1
    have hy := ex_dt eH1 _ _ hy1
    have done : nodes d = 1 → ∃ tv ov uv G stk dsk, [some x0, some y0, some (.ref p), some (.int (0 + (i : Int))), some x, some y, none, none] = [some x0, some y0, some (V.ref p), tv, ov, uv, none, none] ∧ Ex H G ∧ Ex G H1 ∧ G p = none ∧ H1 p = some (.lst stk) ∧ Paired (Pr2 G) stk dsk ∧ nodesL dsk + (i + 1) = nodes d0 := fun e =>
      ⟨_, _, _, G, ai, bi, rfl, eG, eH1, gp, hp1, pr', by omega⟩
    have kids : ∀ (ds : List PyData), nodes d = nodesL ds + 1 → ∀ (zs : List V) (b : Addr) (G2 H2 : Hp), Stp NoM G H1 G2 H2 → H2 b = some (.lst zs) → Paired (Pr2 G2) zs ds →
        zs.length = ds.length → ∃ l b' xs zs', (V.ref p) = .ref l ∧ [V.ref b] = [.ref b'] ∧ H2 l = some (.lst xs) ∧ H2 b' = some (.lst zs') ∧ xs.length + zs'.length ≤ sizeLine ∧
          ∃ tv ov uv G stk dsk, [some x0, some y0, some (.ref p), some (.int (0 + (i : Int))), some x, some y, none, none] = [some x0, some y0, some (V.ref p), tv, ov, uv, none, none] ∧ Ex H G ∧ Ex G (upd H2 l (.lst (xs ++ zs'))) ∧ G p = none ∧ (upd H2 l (.lst (xs ++ zs'))) p = some (.lst stk) ∧ Paired (Pr2 G) stk dsk ∧ nodesL dsk + (i + 1) = nodes d0 := by
      intro ds hn zs b G2 H2 st hb hpz hzl
      have h2p : H2 p = some (.lst ai) := st.hh p _ (fun h => h) hp1
      have g2p : G2 p = none := st.fr p (some_ne hp1) gp
      have hdl := nodesL_len ds
      refine ⟨p, b, ai, zs, rfl, rfl, h2p, hb, hz _ (by omega), _, _, _, G2, ai ++ zs, bi ++ ds, rfl, eG.trans st.gg, fun c o hc => ?_, g2p, upd_same, ?_, ?_⟩
      · rw [upd_ne (fun z => by rw [z, g2p] at hc; cases hc)]; exact st.gh c o hc
      · exact paired_app (Paired.mapP pr' fun v d h => pr2_mono st.gg h) hpz
      · rw [nodesL_app]; omega
    cases d with
    | dict es =>
      obtain ⟨ax, kx, rfl, sx1, hkx⟩ := dt_dict hx1
      obtain ⟨ay, ky, rfl, sy1, hky⟩ := dt_dict hy1
      have sx := eH1 _ _ sx1
      have sy := eH1 _ _ sy1
      have hlx := hkx.length
      have hly := hky.length
      have hnd : nodes (.dict es) = es.length + 1 := by simp [nodes]
      have hn0 : es.length ≤ 100000 := by omega
      have tyy : TyX K H1 (.ref ay) (.type "dict") := ty_dt hy
      have tyx : TyX K H1 (.ref ax) (.type "dict") := ty_dt hx
      let G0 : ∀ od : Obj, Hp := fun od a => if a = ay then some (.frz od (.dK ky)) else Option.none
      have hG0 : ∀ (od : Obj) (H2 : Hp), Ex (G0 od) (upd H2 ay (.frz od (.dK ky))) := fun od H2 a o h => by
        by_cases ha : a = ay
        · have h : (if a = ay then some (HO.frz od (.dK ky)) else Option.none) = some o := h
          rw [if_pos ha] at h
          rw [ha, upd_same]; exact h
        · have h : (if a = ay then some (HO.frz od (.dK ky)) else Option.none) = some o := h
          rw [if_neg ha] at h; cases h
      have hG0y : ∀ od : Obj, G0 od ay = some (.frz od (.dK ky)) := fun od => if_pos rfl
      have hG0n : ∀ (od : Obj) (a : Addr), a ≠ ay → G0 od a = Option.none := fun od a h => if_neg h
      have rdx : ∀ (od : Obj) (H2 H3 : Hp), H2 ax = some (.dK kx) → H2 ay = some (.dK ky) → (∀ a o, upd H2 ay (.frz od (.dK ky)) a = some o → H3 a = some o) → Rd H3 ax (.dK kx) := fun od H2 H3 h1 h2 h => by
        by_cases ha : ax = ay
        · rw [ha, h2] at h1
          have e := Option.some.inj h1
          injection e with e
          exact .inr ⟨od, by rw [ha, ← e]; exact h _ _ upd_same⟩
        · exact .inl (h _ _ (by rw [upd_ne ha]; exact h1))
      refine ⟨_, rfl, (.ref ay), _, _, _, _, rfl, .ty "tuple", tyy, kit_ty (r := false) (by decide +kernel), _, rfl, _, rfl, (.ref ay), _, _, _, _, rfl, .ty "list", tyy, kit_ty (r := false) (by decide +kernel), _, rfl, _, rfl, (.ref ay), _, _, _, _, rfl, .ty "dict", tyy, kit_ty (r := true) (by decide +kernel), _, rfl, ?_⟩
      refine ⟨fun σ' H' => σ' = [some x0, some y0, some (.ref p), some (.int (0 + (i : Int))), some (.ref ax), some (.ref ay), none, none] ∧ Ex H1 H', ?_, ?_⟩
      · refine ⟨_, rfl, (.ref ax), _, _, _, _, rfl, .ty "dict", tyx, kit_ty (r := true) (by decide +kernel), _, rfl, _, rfl, ax, kx, rfl, sx, _, rfl, ay, ky, rfl, sy, rfl, false, ?_, ?_⟩
        · rw [hlx, hly]; exact ne_self
        refine ⟨ay, _, sy, True.intro, fun od => ?_⟩
        refine ⟨_, rfl, ay, od, rfl, .inl ⟨ky, upd_same, fun D hD => ?_⟩⟩
        refine lcW (M := NoM) walk_keys (hG0 od H1) (fun H' e => e _ _ (hG0y od)) (by omega) (fun j y G => True) (fun _ _ _ _ e h => h) (fun _ => false) (fun j => [some x0, some y0, some (.ref p), some (.int (0 + (i : Int))), some (.ref ax), some (.ref ay), none, some (kV (ky.getD j (Sum.inl 0, .non)).1)])
          (fun j y G' H' H'' hj a' yy Q q => turn_key (σ0 := [some x0, some y0, some (.ref p), some (.int (0 + (i : Int))), some (.ref ax), some (.ref ay), none, none]) (j := 7) a' yy (v := (ky.getD j (Sum.inl 0, .non)).2) (by rw [List.getD_eq_getElem?_getD, List.getElem?_eq_getElem hj]; rfl) q) (fun _ _ => rfl) (fun j G' H' hj a' Q q => ?_) (fun j G' H' hj hf a' Q q => by cases hf) (fun _ _ h => h) hD (fun zs G' H' a' gD hl' hsel => ?_)
        · have hkj : ky[j]? = some (ky.getD j (Sum.inl 0, .non)) := by rw [List.getD_eq_getElem?_getD, List.getElem?_eq_getElem hj]; rfl
          obtain ⟨z, vx, vy, d, e1, e3, e4, f1, f2⟩ := dkv_both hkx hky (k := (ky.getD j (Sum.inl 0, .non)).1) (v := (ky.getD j (Sum.inl 0, .non)).2) hkj
          have g := dget_kr (k := (ky.getD j (Sum.inl 0, .non)).1) (rdx od H1 H' sx sy fun a o h => a'.hh a o (fun h => h) h)
          rw [e3] at g
          have q := q G' H' (Stp.refl a'.gh)
          refine ⟨_, rfl, _, rfl, ax, _, rfl, g, _, rfl, ?_⟩
          exact q
        · have hz : zs = [] := by
            have hsel : Paired (fun i y => True) ((List.range ky.length).filter fun _ => false) zs := hsel
            rw [List.filter_eq_nil_iff.mpr (fun _ _ => by simp)] at hsel
            cases hsel; rfl
          subst hz
          have hfr : H' ay = some (.frz od (.dK ky)) := a'.hh _ _ (fun h => h) upd_same
          refine ⟨hfr, D, _, rfl, .inl (SqL.of (by rw [upd_ne (fun z => by rw [z, hfr] at hl'; cases hl')]; exact hl')), _, 0, rfl, rfl, false, rfl, rfl, fun a o h => ?_⟩
          by_cases ha : a = ay
          · rw [ha, upd_same, ← sy, ← ha]; exact h
          · rw [upd_ne ha]; exact a'.hh _ _ (fun h => h) (by rw [upd_ne ha]; exact h)
      · rintro σ' H2 ⟨rfl, e2⟩
        have sx2 := e2 _ _ sx
        have sy2 := e2 _ _ sy
        have hp2 := e2 _ _ hp1
        refine ⟨_, rfl, .inl ⟨rfl, _, SqL.of hp2⟩, ay, _, sy2, True.intro, fun od => ?_⟩
        refine ⟨_, rfl, ay, od, rfl, .inl ⟨ky, upd_same, fun D hD => ?_⟩⟩
        refine lcW (M := NoM) walk_keys (hG0 od H2) (fun H' e => e _ _ (hG0y od)) (by omega) (fun j y G => ∃ r x y' d, y = .ref r ∧ G r = some (.tup [x, y']) ∧ FV x d ∧ FV y' d) (fun _ _ _ _ e ⟨r, x, y', d, h1, h2, h3⟩ => ⟨r, x, y', d, h1, e _ _ h2, h3⟩) (fun _ => true) (fun j => [some x0, some y0, some (.ref p), some (.int (0 + (i : Int))), some (.ref ax), some (.ref ay), none, some (kV (ky.getD j (Sum.inl 0, .non)).1)])
          (fun j y G' H' H'' hj a' yy Q q => turn_key (σ0 := [some x0, some y0, some (.ref p), some (.int (0 + (i : Int))), some (.ref ax), some (.ref ay), none, none]) (j := 7) a' yy (v := (ky.getD j (Sum.inl 0, .non)).2) (by rw [List.getD_eq_getElem?_getD, List.getElem?_eq_getElem hj]; rfl) q) (fun _ _ => rfl) (fun j G' H' hj a' Q q => yes_t a'.gh q) (fun j G' H' hj hf a' Q q => ?_) (fun _ _ h => h) hD (fun zs G' H' a' gD hl' hsel => ?_)
        · have hkj : ky[j]? = some (ky.getD j (Sum.inl 0, .non)) := by rw [List.getD_eq_getElem?_getD, List.getElem?_eq_getElem hj]; rfl
          obtain ⟨z, vx, vy, d, e1, e3, e4, f1, f2⟩ := dkv_both hkx hky (k := (ky.getD j (Sum.inl 0, .non)).1) (v := (ky.getD j (Sum.inl 0, .non)).2) hkj
          have g := dget_kr (k := (ky.getD j (Sum.inl 0, .non)).1) (rdx od H2 H' sx2 sy2 fun a o h => a'.hh a o (fun h => h) h)
          have g' := dget_kr (k := (ky.getD j (Sum.inl 0, .non)).1) (kvs := ky) (show Rd H' ay (.dK ky) from .inr ⟨od, a'.hh _ _ (fun h => h) upd_same⟩)
          rw [e3] at g
          rw [e4] at g'
          refine ⟨_, rfl, _, rfl, ax, _, rfl, g, _, rfl, _, rfl, ay, _, rfl, g', hz 2 (by omega), fun t ht => ?_⟩
          exact q _ _ _ (Stp.new a'.gh ht (o := .tup [vx, vy])) ⟨t, _, _, d, rfl, upd_same, f1, f2⟩
        · have hfr : H' ay = some (.frz od (.dK ky)) := a'.hh _ _ (fun h => h) upd_same
          have hDy : D ≠ ay := fun z => by rw [z, hfr] at hl'; cases hl'
          have keep : ∀ a o, a ≠ ay → H2 a = some o → H' a = some o := fun a o n h => a'.hh a o (fun h => h) (by rw [upd_ne n]; exact h)
          obtain ⟨G2, hG2⟩ : ∃ G2 : Hp, G2 = fun a => if (G a).isSome = true then G a else if a = ay then Option.none else G' a := ⟨_, rfl⟩
          have G2s : ∀ a o, G a = some o → G2 a = some o := fun a o h => by
            rw [hG2]; show (if (G a).isSome = true then G a else _) = some o; rw [if_pos (by rw [h]; rfl)]; exact h
          have G2n : ∀ a, G a = Option.none → a ≠ ay → G2 a = G' a := fun a h n => by
            rw [hG2]; show (if (G a).isSome = true then G a else if a = ay then Option.none else G' a) = G' a
            rw [if_neg (by rw [h]; exact fun z => by cases z), if_neg n]
          have G2y : G ay = Option.none → G2 ay = Option.none := fun h => by
            rw [hG2]; show (if (G ay).isSome = true then G ay else if ay = ay then Option.none else G' ay) = Option.none
            rw [if_neg (by rw [h]; exact fun z => by cases z), if_pos rfl]
          have eG2 : Ex G H2 := eH1.trans e2
          have st : Stp NoM G H2 G2 (upd H' ay (.dK ky)) := by
            refine ⟨fun a o _ h => ?_, fun a h => ?_, fun a o h => G2s a o h, fun a o h => ?_, fun a h1 h2 => ?_⟩
            · by_cases n : a = ay
              · rw [n, upd_same, ← sy2, ← n]; exact h
              · rw [upd_ne n]; exact keep a o n h
            · by_cases n : a = ay
              · rw [n, upd_same] at h; cases h
              · rw [upd_ne n] at h
                have := a'.dm a h
                rw [upd_ne n] at this; exact this
            · cases hg : G a with
              | some o' =>
                rw [G2s a o' hg] at h
                obtain rfl := Option.some.inj h
                have h2 := eG2 a o' hg
                by_cases n : a = ay
                · rw [n, upd_same, ← sy2, ← n]; exact h2
                · rw [upd_ne n]; exact keep a o' n h2
              | none =>
                by_cases n : a = ay
                · rw [n] at hg h
                  rw [G2y hg] at h; cases h
                · rw [G2n a hg n] at h
                  rw [upd_ne n]; exact a'.gh a o h
            · by_cases n : a = ay
              · rw [n] at h2 ⊢; exact G2y h2
              · rw [G2n a h2 n]
                exact a'.fr a (by rw [upd_ne n]; exact h1) (hG0n od a n)
          have gen : ∀ {as : List Nat} {bs : List V}, Paired (fun (j : Nat) y => ∃ r x y' d, y = .ref r ∧ G' r = some (.tup [x, y']) ∧ FV x d ∧ FV y' d) as bs → ∃ ds, Paired (Pr2 G2) bs ds ∧ nodesL ds = bs.length ∧ ds.length = bs.length ∧ bs.length = as.length := by
            intro as bs pq
            induction pq with
            | nil => exact ⟨[], .nil, by simp [nodesL], rfl, rfl⟩
            | cons r t ih =>
              obtain ⟨ds, h1, h2, h3, h4⟩ := ih
              obtain ⟨r, x, y', d, rfl, hr, f1, f2⟩ := r
              have nry : r ≠ ay := fun z => by rw [z, a'.gg _ _ (hG0y od)] at hr; cases hr
              have hgr : G r = Option.none := by
                cases hg : G r with
                | none => rfl
                | some o =>
                  have := a'.fr r (by rw [upd_ne nry, eG2 r o hg]; exact fun z => by cases z) (hG0n od r nry)
                  rw [this] at hr; cases hr
              refine ⟨d :: ds, .cons ⟨r, x, y', rfl, by rw [G2n r hgr nry]; exact hr, fv_dt f1, fv_dt f2⟩ h1, ?_, by simp [h3], by simp [h4]⟩
              rw [nodesL, fv_one f1, h2, List.length_cons]; omega
          obtain ⟨ds, h1, h2, h3, h4⟩ := gen hsel
          rw [List.filter_eq_self.mpr fun _ _ => rfl, List.length_range] at h4
          refine ⟨hfr, kids ds (by omega) zs D G2 _ ((Stp.of eH1 e2).trans st) (by rw [upd_ne hDy]; exact hl') h1 h3.symm⟩
    | none =>
      cases hx1; cases hy1
      exact ⟨_, rfl, .non, _, _, _, _, rfl, .ty "tuple", .base .non, kit_ty (r := false) (by decide +kernel), _, rfl, _, rfl, .non, _, _, _, _, rfl, .ty "list", .base .non, kit_ty (r := false) (by decide +kernel), _, rfl, _, rfl, .non, _, _, _, _, rfl, .ty "dict", .base .non, kit_ty (r := false) (by decide +kernel), _, rfl, _, rfl, .non, _, _, _, _, rfl, .ty "bool", .base .non, kit_ty (r := false) (by decide +kernel), _, rfl, _, rfl, .non, _, _, _, _, rfl, .ty "str", .base .non, kit_ty (r := false) (by decide +kernel), _, rfl, _, rfl, .non, _, _, _, _, rfl, .ty "int", .base .non, kit_ty (r := false) (by decide +kernel), _, rfl, _, rfl, rfl, _, rfl, done (by simp [nodes])⟩
    | bool k =>
      cases hx1; cases hy1
      exact ⟨_, rfl, (.bl k), _, _, _, _, rfl, .ty "tuple", .base (.bl k), kit_ty (r := false) (by decide +kernel), _, rfl, _, rfl, (.bl k), _, _, _, _, rfl, .ty "list", .base (.bl k), kit_ty (r := false) (by decide +kernel), _, rfl, _, rfl, (.bl k), _, _, _, _, rfl, .ty "dict", .base (.bl k), kit_ty (r := false) (by decide +kernel), _, rfl, _, rfl, (.bl k), _, _, _, _, rfl, .ty "bool", .base (.bl k), kit_ty (r := true) (by decide +kernel), _, rfl, _, rfl, (.bl k), _, _, _, _, rfl, .ty "bool", .base (.bl k), kit_ty (r := true) (by decide +kernel), _, rfl, (.bl k), _, _, _, _, rfl, .ty "bool", .base (.bl k), kit_ty (r := true) (by decide +kernel), rfl, false, ne_self, _, rfl, (.bl k), _, _, _, _, rfl, .ty "str", .base (.bl k), kit_ty (r := false) (by decide +kernel), _, rfl, (.bl k), _, _, _, _, rfl, .ty "str", .base (.bl k), kit_ty (r := false) (by decide +kernel), rfl, false, ne_self, _, rfl, _, rfl, rfl, false, ne_self, done (by simp [nodes])⟩
    | str z =>
      cases hx1; cases hy1
      exact ⟨_, rfl, (.str z), _, _, _, _, rfl, .ty "tuple", .base (.str z), kit_ty (r := false) (by decide +kernel), _, rfl, _, rfl, (.str z), _, _, _, _, rfl, .ty "list", .base (.str z), kit_ty (r := false) (by decide +kernel), _, rfl, _, rfl, (.str z), _, _, _, _, rfl, .ty "dict", .base (.str z), kit_ty (r := false) (by decide +kernel), _, rfl, _, rfl, (.str z), _, _, _, _, rfl, .ty "bool", .base (.str z), kit_ty (r := false) (by decide +kernel), _, rfl, _, rfl, (.str z), _, _, _, _, rfl, .ty "str", .base (.str z), kit_ty (r := true) (by decide +kernel), _, rfl, _, rfl, (.str z), _, _, _, _, rfl, .ty "bool", .base (.str z), kit_ty (r := false) (by decide +kernel), _, rfl, (.str z), _, _, _, _, rfl, .ty "bool", .base (.str z), kit_ty (r := false) (by decide +kernel), rfl, false, ne_self, _, rfl, (.str z), _, _, _, _, rfl, .ty "str", .base (.str z), kit_ty (r := true) (by decide +kernel), _, rfl, (.str z), _, _, _, _, rfl, .ty "str", .base (.str z), kit_ty (r := true) (by decide +kernel), rfl, false, ne_self, _, rfl, _, rfl, rfl, false, ne_self, done (by simp [nodes])⟩
    | int z =>
      cases hx1; cases hy1
      exact ⟨_, rfl, (.int z), _, _, _, _, rfl, .ty "tuple", .base (.int z), kit_ty (r := false) (by decide +kernel), _, rfl, _, rfl, (.int z), _, _, _, _, rfl, .ty "list", .base (.int z), kit_ty (r := false) (by decide +kernel), _, rfl, _, rfl, (.int z), _, _, _, _, rfl, .ty "dict", .base (.int z), kit_ty (r := false) (by decide +kernel), _, rfl, _, rfl, (.int z), _, _, _, _, rfl, .ty "bool", .base (.int z), kit_ty (r := false) (by decide +kernel), _, rfl, _, rfl, (.int z), _, _, _, _, rfl, .ty "str", .base (.int z), kit_ty (r := false) (by decide +kernel), _, rfl, _, rfl, (.int z), _, _, _, _, rfl, .ty "int", .base (.int z), kit_ty (r := true) (by decide +kernel), _, rfl, _, rfl, (.int z), _, _, _, _, rfl, .ty "int", .base (.int z), kit_ty (r := true) (by decide +kernel), _, rfl, _, rfl, (.int z), _, _, _, _, rfl, .ty "bool", .base (.int z), kit_ty (r := false) (by decide +kernel), _, rfl, _, rfl, _, rfl, rfl, false, ne_self, done (by simp [nodes])⟩
    | list ds =>
      obtain ⟨ax, xs, rfl, sx1, hxa⟩ := dt_list hx1
      obtain ⟨ay, ys, rfl, sy1, hya⟩ := dt_list hy1
      have sx := SqL.of (K := K) (eH1 _ _ sx1)
      have sy := SqL.of (K := K) (eH1 _ _ sy1)
      have hxl := dta_len hxa
      have hyl := dta_len hya
      have hnd : nodes (.list ds) = nodesL ds + 1 := by simp [nodes]
      have hdl := nodesL_len ds
      refine ⟨_, rfl, (.ref ay), _, _, _, _, rfl, .ty "tuple", ty_l sy, kit_ty (r := false) (by decide +kernel), _, rfl, _, rfl, (.ref ay), _, _, _, _, rfl, .ty "list", ty_l sy, kit_ty (r := true) (by decide +kernel), _, rfl, ?_⟩
      refine ⟨fun σ' H' => σ' = [some x0, some y0, some (.ref p), some (.int (0 + (i : Int))), some (.ref ax), some (.ref ay), none, none] ∧ H1 = H', ?_, ?_⟩
      · refine ⟨_, rfl, (.ref ay), _, _, _, _, rfl, .ty "tuple", ty_l sy, kit_ty (r := false) (by decide +kernel), _, rfl, (.ref ax), _, _, _, _, rfl, .ty "tuple", ty_l sx, kit_ty (r := false) (by decide +kernel), rfl, false, ne_self, _, rfl, (.ref ay), _, _, _, _, rfl, .ty "list", ty_l sy, kit_ty (r := true) (by decide +kernel), _, rfl, (.ref ax), _, _, _, _, rfl, .ty "list", ty_l sx, kit_ty (r := true) (by decide +kernel), rfl, false, ne_self, _, rfl, ax, xs, rfl, .inl sx, _, rfl, ay, ys, rfl, .inl sy, rfl, false, ?_, rfl, rfl⟩
        rw [hxl, hyl]; exact ne_self
      · rintro σ' H' ⟨rfl, rfl⟩
        refine ⟨_, rfl, .inl ⟨rfl, _, SqL.of hp1⟩, _, rfl, ay, ys, rfl, .inl sy, _, rfl, by omega, by omega, fun D hD => ?_⟩
        rw [Int.toNat_natCast, hyl]
        refine lcW (M := NoM) walk_range eH1 (fun _ _ => trivial) (by omega) (fun j y G => Pr2 G y (ds.getD j .none)) (fun _ _ _ _ e h => pr2_mono e h) (fun _ => true) (fun j => [some x0, some y0, some (.ref p), some (.int (0 + (i : Int))), some (.ref ax), some (.ref ay), some (.int (j : Nat)), none])
          (fun j y G' H' H'' hj a' yy Q q => turn_range0 (σ0 := [some x0, some y0, some (.ref p), some (.int (0 + (i : Int))), some (.ref ax), some (.ref ay), none, none]) (j := 6) a' yy q) (fun _ _ => rfl) (fun j G' H' hj a' Q q => yes_t a'.gh q) (fun j G' H' hj _ a' Q q => ?_) (fun _ _ h => h) hD (fun zs G' H' a' gD hl' hsel => ?_)
        · have e2 := a'.gg.trans a'.gh
          have hjx : xs[j]? = some (xs.getD j .non) := by rw [List.getD_eq_getElem?_getD, List.getElem?_eq_getElem (by omega)]; rfl
          have hjy : ys[j]? = some (ys.getD j .non) := by rw [List.getD_eq_getElem?_getD, List.getElem?_eq_getElem (by omega)]; rfl
          obtain ⟨d1, f1, g1⟩ := dta_get hxa hjx
          obtain ⟨d2, f2, g2⟩ := dta_get hya hjy
          rw [f1] at f2
          obtain rfl := Option.some.inj f2
          refine ⟨_, rfl, _, rfl, .inl ⟨ax, xs, _, _, rfl, rfl, SqL.of ((a'.gg.trans a'.gh) _ _ sx1), at_nat hjx, _, rfl, _, rfl, .inl ⟨ay, ys, _, _, rfl, rfl, SqL.of ((a'.gg.trans a'.gh) _ _ sy1), at_nat hjy, hz 2 (by omega), fun t ht => ?_⟩⟩⟩
          have gt : G' t = none := Evl.fresh_back a'.gh ht
          refine q _ _ _ (Stp.new a'.gh ht (o := .tup [xs.getD j .non, ys.getD j .non])) ⟨t, _, _, rfl, upd_same, ?_, ?_⟩
          · rw [getD_of f1]; exact ex_dt (a'.gg.trans (Evl.Ex.new gt)) _ _ g1
          · rw [getD_of f1]; exact ex_dt (a'.gg.trans (Evl.Ex.new gt)) _ _ g2
        · exact kids ds hnd zs D G' H' a' hl' (sel_pr hsel) (by have := sel_all hsel; exact this.1)
    | tuple ds =>
      obtain ⟨ax, xs, rfl, sx1, hxa⟩ := dt_tup hx1
      obtain ⟨ay, ys, rfl, sy1, hya⟩ := dt_tup hy1
      have sx := SqT.of (K := K) (eH1 _ _ sx1)
      have sy := SqT.of (K := K) (eH1 _ _ sy1)
      have hxl := dta_len hxa
      have hyl := dta_len hya
      have hnd : nodes (.tuple ds) = nodesL ds + 1 := by simp [nodes]
      have hdl := nodesL_len ds
      refine ⟨_, rfl, (.ref ay), _, _, _, _, rfl, .ty "tuple", ty_t sy, kit_ty (r := true) (by decide +kernel), _, rfl, ?_⟩
      refine ⟨fun σ' H' => σ' = [some x0, some y0, some (.ref p), some (.int (0 + (i : Int))), some (.ref ax), some (.ref ay), none, none] ∧ H1 = H', ?_, ?_⟩
      · refine ⟨_, rfl, (.ref ay), _, _, _, _, rfl, .ty "tuple", ty_t sy, kit_ty (r := true) (by decide +kernel), _, rfl, (.ref ax), _, _, _, _, rfl, .ty "tuple", ty_t sx, kit_ty (r := true) (by decide +kernel), rfl, false, ne_self, _, rfl, (.ref ay), _, _, _, _, rfl, .ty "list", ty_t sy, kit_ty (r := false) (by decide +kernel), _, rfl, (.ref ax), _, _, _, _, rfl, .ty "list", ty_t sx, kit_ty (r := false) (by decide +kernel), rfl, false, ne_self, _, rfl, ax, xs, rfl, .inr sx, _, rfl, ay, ys, rfl, .inr sy, rfl, false, ?_, rfl, rfl⟩
        rw [hxl, hyl]; exact ne_self
      · rintro σ' H' ⟨rfl, rfl⟩
        refine ⟨_, rfl, .inl ⟨rfl, _, SqL.of hp1⟩, _, rfl, ay, ys, rfl, .inr sy, _, rfl, by omega, by omega, fun D hD => ?_⟩
        rw [Int.toNat_natCast, hyl]
        refine lcW (M := NoM) walk_range eH1 (fun _ _ => trivial) (by omega) (fun j y G => Pr2 G y (ds.getD j .none)) (fun _ _ _ _ e h => pr2_mono e h) (fun _ => true) (fun j => [some x0, some y0, some (.ref p), some (.int (0 + (i : Int))), some (.ref ax), some (.ref ay), some (.int (j : Nat)), none])
          (fun j y G' H' H'' hj a' yy Q q => turn_range0 (σ0 := [some x0, some y0, some (.ref p), some (.int (0 + (i : Int))), some (.ref ax), some (.ref ay), none, none]) (j := 6) a' yy q) (fun _ _ => rfl) (fun j G' H' hj a' Q q => yes_t a'.gh q) (fun j G' H' hj _ a' Q q => ?_) (fun _ _ h => h) hD (fun zs G' H' a' gD hl' hsel => ?_)
        · have e2 := a'.gg.trans a'.gh
          have hjx : xs[j]? = some (xs.getD j .non) := by rw [List.getD_eq_getElem?_getD, List.getElem?_eq_getElem (by omega)]; rfl
          have hjy : ys[j]? = some (ys.getD j .non) := by rw [List.getD_eq_getElem?_getD, List.getElem?_eq_getElem (by omega)]; rfl
          obtain ⟨d1, f1, g1⟩ := dta_get hxa hjx
          obtain ⟨d2, f2, g2⟩ := dta_get hya hjy
          rw [f1] at f2
          obtain rfl := Option.some.inj f2
          refine ⟨_, rfl, _, rfl, .inr ⟨ax, xs, _, _, rfl, rfl, SqT.of ((a'.gg.trans a'.gh) _ _ sx1), at_nat hjx, _, rfl, _, rfl, .inr ⟨ay, ys, _, _, rfl, rfl, SqT.of ((a'.gg.trans a'.gh) _ _ sy1), at_nat hjy, hz 2 (by omega), fun t ht => ?_⟩⟩⟩
          have gt : G' t = none := Evl.fresh_back a'.gh ht
          refine q _ _ _ (Stp.new a'.gh ht (o := .tup [xs.getD j .non, ys.getD j .non])) ⟨t, _, _, rfl, upd_same, ?_, ?_⟩
          · rw [getD_of f1]; exact ex_dt (a'.gg.trans (Evl.Ex.new gt)) _ _ g1
          · rw [getD_of f1]; exact ex_dt (a'.gg.trans (Evl.Ex.new gt)) _ _ g2
        · exact kids ds hnd zs D G' H' a' hl' (sel_pr hsel) (by have := sel_all hsel; exact this.1)
  · rintro σ' H' ⟨tv, ov, uv, G, stk, dsk, rfl, eG, eH, gp, hp', pr, hsum⟩
    exfalso
    have : (((10 : Int) ^ (9 : Int).toNat).toNat) = 1000000000 := by decide +kernel
    omega
end
end K21
namespace K21
open PySem PySem.Spec PyProof.Rows L2 Hx Hd
open Evl (pss_cut tCut ex_l ex_t)
open M21
def Fit : Nat → PyData → Prop
  | 0, d => (∀ ds, d ≠ .list ds ∧ d ≠ .tuple ds) ∧ ∀ es, d ≠ .dict es
  | n + 1, d => (∀ ds, (d = .list ds ∨ d = .tuple ds) → ds.length ≤ 100000 ∧ ∀ e ∈ ds, Fit n e) ∧ ∀ es, d = .dict es → es.length ≤ 100000 ∧ (es.map (·.1)).Nodup
theorem dkv_mem : ∀ {kvs : List (Key × V)} {es : List (PyData × PyData)}, DKV kvs es → ∀ z : Str, (Sum.inr z : Key) ∈ kvs.map (·.1) → PyData.str z ∈ es.map (·.1)
  | [], _, .nil, z, h => by cases h
  | p :: kvs, _, .cons r t, z, h => by
    obtain ⟨y, h1, h2, h3⟩ := r
    rw [List.map_cons, List.mem_cons] at h ⊢
    rcases h with h | h
    · rw [h1] at h
      rw [h2, Sum.inr.inj h]
      exact .inl rfl
    · exact .inr (dkv_mem t z h)
theorem dkv_nodup : ∀ {kvs : List (Key × V)} {es : List (PyData × PyData)}, DKV kvs es → (es.map (·.1)).Nodup → (kvs.map (·.1)).Nodup
  | [], _, .nil, _ => List.nodup_nil
  | p :: kvs, _, .cons r t, h => by
    obtain ⟨y, h1, h2, h3⟩ := r
    rw [List.map_cons, List.nodup_cons] at h ⊢
    refine ⟨fun hm => ?_, dkv_nodup t h.2⟩
    rw [h1] at hm
    have := dkv_mem t y hm
    rw [h2] at h
    exact h.1 this
theorem val_none {kvs : List (Key × V)} {k : Key} (h : k ∉ kvs.map (·.1)) : valV kvs k = none := by
  induction kvs with
  | nil => rfl
  | cons p l ih =>
    rw [List.map_cons, List.mem_cons, not_or] at h
    rw [valV_neg fun e => h.1 e.symm]
    exact ih h.2
theorem dt_mono {f : Nat → PyData} : ∀ (i : Nat) (v : V) (G G' : Hp), Ex G G' → Dt G v (f i) → Dt G' v (f i) := fun _ _ _ _ e h => ex_dt e _ _ h
theorem sel_dta1 {enc : Nat → PyData} {n : Nat} {ys : List V} {G : Hp} (h : Sel (fun i y G => Dt G y (enc i)) (fun _ => true) n ys G) : DtAll G ys ((List.range n).map enc) := by
  have gen : ∀ {as : List Nat} {bs : List V}, Paired (fun i y => Dt G y (enc i)) as bs → DtAll G bs (as.map enc) := by
    intro as bs p
    induction p with
    | nil => exact .nil
    | cons r t ih => exact .cons r ih
  have z := gen h
  rwa [List.filter_eq_self.mpr fun _ _ => rfl] at z
theorem fit_int (i : Int) : ∀ n, Fit n (.int i)
  | 0 => ⟨fun ds => ⟨(fun h => by cases h), (fun h => by cases h)⟩, (fun es h => by cases h)⟩
  | n + 1 => ⟨(fun ds h => by rcases h with h | h <;> cases h), (fun es h => by cases h)⟩
theorem fit_bool (i : Bool) : ∀ n, Fit n (.bool i)
  | 0 => ⟨fun ds => ⟨(fun h => by cases h), (fun h => by cases h)⟩, (fun es h => by cases h)⟩
  | n + 1 => ⟨(fun ds h => by rcases h with h | h <;> cases h), (fun es h => by cases h)⟩
theorem fit_str (i : Str) : ∀ n, Fit n (.str i)
  | 0 => ⟨fun ds => ⟨(fun h => by cases h), (fun h => by cases h)⟩, (fun es h => by cases h)⟩
  | n + 1 => ⟨(fun ds h => by rcases h with h | h <;> cases h), (fun es h => by cases h)⟩
theorem fit_none : ∀ n, Fit n .none
  | 0 => ⟨fun ds => ⟨(fun h => by cases h), (fun h => by cases h)⟩, (fun es h => by cases h)⟩
  | n + 1 => ⟨(fun ds h => by rcases h with h | h <;> cases h), (fun es h => by cases h)⟩
theorem fit_flat {v : V} {d : PyData} (f : FV v d) (n : Nat) : Fit n d := by
  cases f with
  | int i => exact fit_int i n
  | bl b => exact fit_bool b n
theorem take_at {kvs : List (Key × V)} {i : Nat} {p : Key × V} (h : kvs[i]? = some p) : kvs.take (i + 1) = kvs.take i ++ [p] := by
  rw [List.take_add_one, h]; rfl
theorem nd_at {kvs : List (Key × V)} (hn : (kvs.map (·.1)).Nodup) {i : Nat} {k : Key} {v : V} (h : kvs[i]? = some (k, v)) : valV (kvs.take i) k = none ∧ valV kvs k = some v := by
  have hi : i < kvs.length := (List.getElem?_eq_some_iff.mp h).1
  have hd : kvs = kvs.take i ++ (k, v) :: kvs.drop (i + 1) := by
    have h2 : kvs[i] = (k, v) := (List.getElem?_eq_some_iff.mp h).2
    rw [← h2, ← List.drop_eq_getElem_cons hi, List.take_append_drop]
  have e1 : valV (kvs.take i) k = none := by
    refine val_none fun hm => ?_
    rw [hd, List.map_append, List.nodup_append] at hn
    exact hn.2.2 k hm k (by simp) rfl
  refine ⟨e1, ?_⟩
  have gen : ∀ (l : List (Key × V)), valV l k = none → valV (l ++ (k, v) :: kvs.drop (i + 1)) k = some v := by
    intro l
    induction l with
    | nil => intro _; exact valV_pos rfl
    | cons q l ih =>
      intro hq
      by_cases hk : q.1 = k
      · rw [valV_pos hk] at hq; cases hq
      · rw [valV_neg hk] at hq
        rw [List.cons_append, valV_neg hk]
        exact ih hq
  rw [hd]
  have := gen _ e1
  rwa [← hd] at this ⊢
theorem range_id (ds : List PyData) : (List.range ds.length).map (fun j => ds.getD j PyData.none) = ds := by
  apply List.ext_getElem
  · simp
  · intro i h1 h2
    simp [List.getD_eq_getElem?_getD, h2]
section
variable {P : Program} {w : World} {K : PySem.W.Frag} {mg : Str → Option Value} {base : Heap}
def spCopy (n : Nat) (K : PySem.W.Frag) : Sp := fun vs H Q _ => ∃ x d G, vs = [x] ∧ Ex G H ∧ Dt G x d ∧ Fit n d ∧ ∀ v G2 H2, Stp NoM G H G2 H2 → Dt G2 v d → Q v H2
abbrev N_law_copy : List Str := ["value", "found", "key", "item"]
theorem sc_law_copy : FnScope N_law_copy ["value"] (defScope (top 37)) := ⟨rfl, rfl, rfl, by decide +kernel, rfl, by decide +kernel, by decide +kernel⟩
theorem ok_copy0 (T : Txt K mg) : Cal P w K mg base CX0 1 "_law_copy" ["value"] (spCopy 0 K) := by
  refine mkCal T.g__law_copy T.d__law_copy sc_law_copy (fun _ _ _ _ _ _ us hl => match us, hl with | [_], _ => rfl) (fun vs H Q E h => ?_) fun cdv A outer s H vs Q E hr h => ?_
  · obtain ⟨x, _, d, rfl, _⟩ := h; rfl
  obtain ⟨x, d, G, rfl, e, hd, hf, q⟩ := h
  refine ⟨_, (pss_cons (ps_if (pt_val (pe_callB (isiR (K := K)) (by rfl) T.n_isinstance (by decide +kernel) (pa_cons (pv 0) (pa_cons (pe_bltn (v := .ty "dict") rfl T.n_dict (by decide +kernel) rfl) pa_nil)))) pss_no pss_nil)
      (pss_cons (ps_if (pt_val (pe_callB (isiR (K := K)) (by rfl) T.n_isinstance (by decide +kernel) (pa_cons (pv 0) (pa_cons (pe_bltn (v := .ty "list") rfl T.n_list (by decide +kernel) rfl) pa_nil)))) pss_no pss_nil)
      (pss_cons (ps_if (pt_val (pe_callB (isiR (K := K)) (by rfl) T.n_isinstance (by decide +kernel) (pa_cons (pv 0) (pa_cons (pe_bltn (v := .ty "tuple") rfl T.n_tuple (by decide +kernel) rfl) pa_nil)))) pss_no pss_nil)
      (pss_one (ps_ret (pv 0)))))), ?_⟩
  have ht := ty_dt (K := K) (ex_dt e _ _ hd)
  have fin := q x G H (Stp.refl e) hd
  refine ⟨_, rfl, x, _, _, _, _, rfl, .ty "dict", ht, kit_ty (kit_dict d), _, rfl, ?_⟩
  cases h1 : isT "dict" d with
  | true =>
    obtain ⟨es, rfl⟩ := isT_dict h1
    exact absurd rfl (hf.2 es)
  | false =>
    refine ⟨_, rfl, x, _, _, _, _, rfl, .ty "list", ht, kit_ty (kit_list d), _, rfl, ?_⟩
    cases h2 : isT "list" d with
    | true =>
      obtain ⟨ds, rfl⟩ := isT_list h2
      exact absurd rfl (hf.1 ds).1
    | false =>
      refine ⟨_, rfl, x, _, _, _, _, rfl, .ty "tuple", ht, kit_ty (kit_tup d), _, rfl, ?_⟩
      cases h3 : isT "tuple" d with
      | true =>
        obtain ⟨ds, rfl⟩ := isT_tup h3
        exact absurd rfl (hf.1 ds).2
      | false => exact ⟨_, rfl, fin⟩
theorem ok_copyS (T : Txt K mg) {n : Nat} (C__law_copy : Cal P w K mg base CX0 (n + 1) "_law_copy" ["value"] (spCopy n K)) : Cal P w K mg base CX0 (n + 2) "_law_copy" ["value"] (spCopy (n + 1) K) := by
  refine mkCal T.g__law_copy T.d__law_copy sc_law_copy (fun _ _ _ _ _ _ us hl => match us, hl with | [_], _ => rfl) (fun vs H Q E h => ?_) fun cdv A outer s H vs Q E hr h => ?_
  · obtain ⟨x, _, d, rfl, _⟩ := h; rfl
  obtain ⟨x, d, G, rfl, e, hd, hf, q⟩ := h
  refine ⟨_, (pss_cons (ps_if (pt_val (pe_callB (isiR (K := K)) (by rfl) T.n_isinstance (by decide +kernel) (pa_cons (pv 0) (pa_cons (pe_bltn (v := .ty "dict") rfl T.n_dict (by decide +kernel) rfl) pa_nil)))) (pss_cons (ps_set (i := 1) sc_law_copy.nd rfl (Or.inl rfl) pe_dnewK)
      (pss_cons (ps_lock (ps_for PassesOwn.never rfl (pi_keys (pv 0)) (pg_name (i := 2) sc_law_copy.nd rfl (Or.inl rfl)) (pss_one (ps_dput (hu_of hr) (pv 1) (pv 2) (pe_cal (E := E0) C__law_copy (hr.mono (Nat.le_refl _)) pass0 (pa_cons (pe_dget (hu_of hr) (pv 0) (pv 2) (fun _ _ => rfl)) pa_nil)) rfl))))
      (pss_one (ps_ret (pv 1))))) pss_nil)
      (pss_cons (ps_if (pt_val (pe_callB (isiR (K := K)) (by rfl) T.n_isinstance (by decide +kernel) (pa_cons (pv 0) (pa_cons (pe_bltn (v := .ty "list") rfl T.n_list (by decide +kernel) rfl) pa_nil)))) (pss_one (ps_ret (pe_lc (own := [("item", 3)]) (g := gName 3) rfl sc_law_copy.nd (piL (K := K) (pv 0)) (blkOk_by (N := N_law_copy) (sc := defScope (top 37)) (by decide +kernel)) (fun _ _ _ _ _ => (pg_name (i := 3) sc_law_copy.nd rfl (Or.inl rfl))) (fun _ _ _ _ _ => pts_nil) (fun _ _ _ _ _ => (pe_cal (E := E0) C__law_copy (hr.mono (Nat.le_refl _)) pass0 (pa_cons (pv 3) pa_nil)))))) pss_nil)
      (pss_cons (ps_if (pt_val (pe_callB (isiR (K := K)) (by rfl) T.n_isinstance (by decide +kernel) (pa_cons (pv 0) (pa_cons (pe_bltn (v := .ty "tuple") rfl T.n_tuple (by decide +kernel) rfl) pa_nil)))) (pss_one (ps_ret (pe_callTy (tupOf (K := K)) (by rfl) T.n_tuple (by decide +kernel) (pa_cons (pe_lc (own := [("item", 3)]) (g := gName 3) rfl sc_law_copy.nd (piT (K := K) (pv 0)) (blkOk_by (N := N_law_copy) (sc := defScope (top 37)) (by decide +kernel)) (fun _ _ _ _ _ => (pg_name (i := 3) sc_law_copy.nd rfl (Or.inl rfl))) (fun _ _ _ _ _ => pts_nil) (fun _ _ _ _ _ => (pe_cal (E := E0) C__law_copy (hr.mono (Nat.le_refl _)) pass0 (pa_cons (pv 3) pa_nil)))) pa_nil)))) pss_nil)
      (pss_one (ps_ret (pv 0)))))), ?_⟩
  have ht := ty_dt (K := K) (ex_dt e _ _ hd)
  have fin := q x G H (Stp.refl e) hd
  refine ⟨_, rfl, x, _, _, _, _, rfl, .ty "dict", ht, kit_ty (kit_dict d), _, rfl, ?_⟩
  cases h1 : isT "dict" d with
  | true =>
    obtain ⟨es, rfl⟩ := isT_dict h1
    obtain ⟨hn0, hnd⟩ := hf.2 es rfl
    obtain ⟨ay, ky, rfl, sy0, hky⟩ := dt_dict hd
    have sy := e _ _ sy0
    have hly := hky.length
    have hkn := dkv_nodup hky hnd
    intro D hD
    have nyD : ay ≠ D := ne_of_none sy hD
    refine ⟨ay, .dK ky, (by rw [upd_ne nyD]; exact sy), True.intro, fun od => ?_⟩
    refine ⟨_, rfl, ay, od, rfl, .inl ⟨ky, upd_same, ?_⟩⟩
    refine for_it walk_keys (fun i σ' H' => ∃ kv iv, σ' = [some (.ref ay), some (.ref D), kv, iv] ∧ H' ay = some (.frz od (.dK ky)) ∧ H' D = some (.dK (ky.take i)) ∧ (∀ a o, a ≠ ay → H a = some o → H' a = some o) ∧ (∀ a, H' a = none → H a = none))
      ⟨none, none, rfl, upd_same, (by rw [upd_ne nyD.symm]; exact upd_same), fun a o n h => (by rw [upd_ne n, upd_ne (ne_of_none h hD)]; exact h), fun a h => (by
        by_cases n : a = ay
        · rw [n, upd_same] at h; cases h
        · rw [upd_ne n] at h
          by_cases n2 : a = D
          · rw [n2]; exact hD
          · rwa [upd_ne n2] at h)⟩ (fun i σ' H' hi ⟨_, _, _, h, _⟩ => h) ?_ ?_
    · rintro i x σ' H' H'' hi ⟨kv, iv, rfl, h1, h2, h3, h4⟩ ⟨rfl, k, v, hk, rfl⟩
      obtain ⟨z, vx, vy, d, rfl, e3, e4, f1, f2⟩ := dkv_both hky hky hk
      obtain ⟨hn1, hn2⟩ := nd_at hkn hk
      have hv : v = vy := by rw [e4] at hn2; exact (Option.some.inj hn2).symm
      have g := dget_kr (k := (Sum.inr z : Key)) (show Rd H'' ay (.dK ky) from .inr ⟨od, h1⟩)
      rw [e4] at g
      refine ⟨_, rfl, _, rfl, ay, _, rfl, g, vy, d, fun _ => none, rfl, fun _ _ h => (by cases h), fv_dt f2, fit_flat f2 n, fun v' G2 H2 st hd2 => ?_⟩
      have hv' : v' = vy := by cases f2 <;> cases hd2 <;> rfl
      subst hv'
      have hD2 := st.hh D _ (fun h => h) h2
      refine ⟨_, rfl, _, rfl, D, _, rfl, DPut.k (k := (Sum.inr z : Key)) hD2 (sz _ (by rw [List.length_take]; omega)), ?_⟩
      refine ⟨_, _, rfl, (by rw [upd_ne nyD]; exact st.hh ay _ (fun h => h) h1), (by rw [upd_same, putK_new _ hn1, take_at hk, hv]), fun a o n h => ?_, fun a h => ?_⟩
      · rw [upd_ne (ne_of_none h hD)]
        exact st.hh a _ (fun h => h) (h3 a o n h)
      · by_cases n2 : a = D
        · rw [n2]; exact hD
        · rw [upd_ne n2] at h
          exact h4 a (st.dm a h)
    · rintro σ' H' ⟨kv, iv, rfl, h1, h2, h3, h4⟩
      rw [List.take_length] at h2
      have gD : G D = none := Evl.fresh_back e hD
      refine ⟨h1, _, rfl, q (.ref D) (upd G D (.dK ky)) _ ?_ (.dct upd_same hky)⟩
      refine ⟨fun a o _ h => ?_, fun a h => ?_, Evl.Ex.new gD, fun a o h => ?_, fun a h1 h2 => ?_⟩
      · by_cases n : a = ay
        · rw [n, upd_same, ← sy, ← n]; exact h
        · rw [upd_ne n]; exact h3 a o n h
      · by_cases n : a = ay
        · rw [n, upd_same] at h; cases h
        · rw [upd_ne n] at h; exact h4 a h
      · by_cases n2 : a = D
        · rw [n2, upd_same] at h
          rw [n2, upd_ne nyD.symm, h2]; exact h
        · rw [upd_ne n2] at h
          have h := e a o h
          by_cases n : a = ay
          · rw [n, upd_same, ← sy, ← n]; exact h
          · rw [upd_ne n]; exact h3 a o n h
      · rw [upd_ne (fun z => h1 (by rw [z]; exact hD))]; exact h2
  | false =>
    refine ⟨_, rfl, x, _, _, _, _, rfl, .ty "list", ht, kit_ty (kit_list d), _, rfl, ?_⟩
    cases h2 : isT "list" d with
    | true =>
      obtain ⟨ds, rfl⟩ := isT_list h2
      obtain ⟨a, xs, rfl, hs, ha⟩ := dt_list hd
      obtain ⟨hz, hfd⟩ := hf.1 ds (.inl rfl)
      have hl := dta_len ha
      refine ⟨_, rfl, a, rfl, ⟨xs, SqL.of (e _ _ hs)⟩, fun D hD => ?_⟩
      refine lcW (M := NoM) walk_list e (fun H' e => SqL.of (e _ _ hs)) (by omega) (fun i y G => Dt G y (ds.getD i .none)) dt_mono (fun _ => true) (fun i => [some (.ref a), none, none, some (xs.getD i .non)])
        (fun i y G' H' H'' hi a' yy Q q => turn_name (σ0 := [some (.ref a), none, none, none]) (j := 3) a' yy (by rw [List.getD_eq_getElem?_getD]; simp [hi]) q) (fun _ _ => rfl) (fun i G' H' hi a' Q q => yes_t a'.gh q) (fun i G' H' hi _ a' Q q => ?_) (fun _ _ h => h) hD (fun ys G' H' a' gD hl' hsel => ?_)
      · obtain ⟨d1, e1, g1⟩ := dta_get ha (i := i) (v := xs.getD i .non) (by rw [List.getD_eq_getElem?_getD]; simp [hi])
        refine ⟨_, rfl, _, d1, G', rfl, a'.gh, ex_dt a'.gg _ _ g1, hfd d1 (List.mem_of_getElem? e1), fun v G2 H2 st hv => q _ _ _ st ?_⟩
        rw [getD_of e1]; exact hv
      · rw [hl] at hsel
        have hy := sel_dta1 (enc := fun i => ds.getD i .none) hsel
        rw [range_id] at hy
        exact q _ _ _ (a'.fix hD hl') (.lst upd_same (ex_dta (Evl.Ex.new gD) hy))
    | false =>
      refine ⟨_, rfl, x, _, _, _, _, rfl, .ty "tuple", ht, kit_ty (kit_tup d), _, rfl, ?_⟩
      cases h3 : isT "tuple" d with
      | false => exact ⟨_, rfl, fin⟩
      | true =>
        obtain ⟨ds, rfl⟩ := isT_tup h3
        obtain ⟨a, xs, rfl, hs, ha⟩ := dt_tup hd
        obtain ⟨hz, hfd⟩ := hf.1 ds (.inr rfl)
        have hl := dta_len ha
        refine ⟨_, rfl, a, rfl, ⟨xs, SqT.of (e _ _ hs)⟩, fun D hD => ?_⟩
        refine lcW (M := NoM) walk_tup e (fun H' e => SqT.of (e _ _ hs)) (by omega) (fun i y G => Dt G y (ds.getD i .none)) dt_mono (fun _ => true) (fun i => [some (.ref a), none, none, some (xs.getD i .non)])
          (fun i y G' H' H'' hi a' yy Q q => turn_name (σ0 := [some (.ref a), none, none, none]) (j := 3) a' yy (by rw [List.getD_eq_getElem?_getD]; simp [hi]) q) (fun _ _ => rfl) (fun i G' H' hi a' Q q => yes_t a'.gh q) (fun i G' H' hi _ a' Q q => ?_) (fun _ _ h => h) hD (fun ys G' H' a' gD hl' hsel => ?_)
        · obtain ⟨d1, e1, g1⟩ := dta_get ha (i := i) (v := xs.getD i .non) (by rw [List.getD_eq_getElem?_getD]; simp [hi])
          refine ⟨_, rfl, _, d1, G', rfl, a'.gh, ex_dt a'.gg _ _ g1, hfd d1 (List.mem_of_getElem? e1), fun v G2 H2 st hv => q _ _ _ st ?_⟩
          rw [getD_of e1]; exact hv
        · rw [hl] at hsel
          have hy := sel_dta1 (enc := fun i => ds.getD i .none) hsel
          rw [range_id] at hy
          refine ⟨D, ys, rfl, .inl ⟨SqL.of hl', fun l hl2 => ?_⟩⟩
          have gl : G' l = none := Evl.fresh_back a'.gh hl2
          exact q _ _ _ (a'.trans (Stp.new a'.gh hl2 (o := .tup ys))) (.tup upd_same (ex_dta (Evl.Ex.new gl) hy))
end
end K21
/-! tuple(reversed(t)), t a tuple -/
namespace Hx
open PySem PySem.Spec PyProof.Rows L2 RT
theorem rv_nolen : typeLookup (.type "reversed") "__len__" = pure none := by
  rw [typeLookup_type, builtinLookup_eq_fast]
  kernel_rfl
theorem rv_hint : typeLookup (.type "reversed") "__length_hint__" = pure (some (.builtin "reversed.__length_hint__")) := by
  rw [typeLookup_type, builtinLookup_eq_fast]
  kernel_rfl
theorem rv_slot : Slot "reversed" "__length_hint__" "reversed.__length_hint__" :=
  .of (owner := "reversed") (n := "__length_hint__") (by rw [typeLookup_type, builtinLookup_eq_fast]; kernel_rfl) (by decide +kernel) (by decide +kernel) (by decide +kernel) (by first | exact .inl (by decide +kernel) | exact .inr (by decide +kernel)) (by rw [isSubtype_type]; kernel_rfl)
theorem rv_entry : entryFor table "reversed.__length_hint__" = some Builtin.«reversed.__length_hint__» := entryFor_of_tree (by kernel_rfl)
theorem rv_args (a : Value) : argsOk "reversed.__length_hint__" ⟨[a], []⟩ := by
  unfold argsOk
  rw [signature?_of (id := "reversed.__length_hint__") (n := "__length_hint__".toList.reverse) (o := "reversed".toList.reverse) (by kernel_rfl) owner_rt]
  kernel_rfl
theorem rv_bind (a : Value) : bindSpecial (.builtin "reversed.__length_hint__") a = pure (.builtin "reversed.__length_hint__", [a]) := by
  have k1 : withoutEnding? "reversed.__length_hint__" "#opaque" = none := by decide +kernel
  have k2 : withoutEnding? "reversed.__length_hint__" "#data" = none := by decide +kernel
  have k3 : builtinKind "reversed.__length_hint__" = some .method := by decide +kernel
  simp only [bindSpecial, typeOf, builtinType, k1, k2, k3]
  rfl
section
variable {prog : Program} {w : World} {A : Around} {E : Value → Shared → Prop} {s : Shared}
abbrev bkAt (xs : Array Value) (i : Nat) (v : Value) : Prop := xs[xs.size - 1 - i]? = some v
theorem walks_rt (hh : A.handled = none) {r t : Addr} (ne : t ≠ r) {xs : Array Value} (hz : xs.size ≤ sizeLine) : Walks prog w A r [r, t] [r] xs.size (bkAt xs) (fun i h => i ≤ xs.size ∧ IsRt h r t ((xs.size : Int) - 1 - (i : Nat)) ∧ IsTup h t xs) where
  sub := fun b hb => by simp at hb; simp [hb]
  frame := fun i h h' ⟨hi, x, y⟩ k => ⟨hi, x.at fun o e => k r (by simp) o e, by obtain ⟨o, e, c⟩ := y; exact ⟨o, k t (by simp) o e, c⟩⟩
  item := fun i s Q E hi ⟨_, x, y⟩ q => by
    have hj : xs.size - 1 - i < xs.size := by omega
    have e1 : (xs.size : Int) - 1 - ((i : Nat) : Int) = ((xs.size - 1 - i : Nat) : Int) := by omega
    rw [e1] at x
    refine next_rt_item x y (Array.getElem?_eq_getElem hj) hz fun h' x' sb => ?_
    have e2 : ((xs.size - 1 - i : Nat) : Int) - 1 = (xs.size : Int) - 1 - ((i + 1 : Nat) : Int) := by omega
    rw [e2] at x'
    refine q _ h' _ (Array.getElem?_eq_getElem hj) ⟨hi, x', ?_⟩ fun b o hb e => (sb.2 b (by simpa using hb)).trans e
    obtain ⟨o, e, c⟩ := y
    exact ⟨o, (sb.2 t ne).trans e, c⟩
  done := fun s Q E ⟨_, x, _⟩ q => by
    have e1 : (xs.size : Int) - 1 - ((xs.size : Nat) : Int) = -1 := by omega
    rw [e1] at x
    exact next_rt_end hh x fun h' eb => q h' s.toks fun b o hb e => eb b o (by simpa using hb) e
  self := fun i s Q E ⟨_, x, _⟩ q => iter_rt x q
theorem fit1 {n : Nat} (h : n ≤ sizeLine) : Builtin.List.listFitsIndex (n : Int) = true := by
  have hl : sizeLine = 16777216 := sizeLine_eq
  unfold Builtin.List.listFitsIndex
  simp only [Bool.and_eq_true, decide_eq_true_eq]
  omega
theorem fit2 {n : Nat} (h : n ≤ sizeLine) : Builtin.List.listTooLong ((n : Int)).toNat = false := by
  unfold Builtin.List.listTooLong
  rw [Int.toNat_natCast]
  exact decide_eq_false (by omega)
theorem fit3 {n : Nat} (h : 0 < n) : ((n : Int) != 0) = true := by
  rw [bne_iff_ne]; omega
theorem hint_rt {r t : Addr} {xs : Array Value} {Q : Value → Shared → Prop} (x : IsRt s.heap r t ((xs.size : Int) - 1)) (y : IsTup s.heap t xs) (hz : xs.size ≤ sizeLine) (q : ∀ u tk, Q (.int xs.size u) { s with toks := tk }) :
    wpAny (model prog w) A (call (.builtin "reversed.__length_hint__") [.ref r]) Q E s := by
  have hl : sizeLine = 16777216 := sizeLine_eq
  obtain ⟨o, ho, hc, hd⟩ := id x
  refine wpAny_call_entry rv_slot x.typeIs rv_entry ?_ (rv_args _)
  unfold Builtin.«reversed.__length_hint__»
  refine wpAny_bind (wpAny_of_eq (a := Value.ref r) rfl ?_)
  refine wpAny_bind (wpAny_field ho hd (x := .ref t) rfl ?_)
  show wpAny _ A.in1 (call (.builtin "len") [.ref t] >>= _) _ _ _
  refine wpAny_bind (PyProof.Rows.len_tuple y (by omega) ?_)
  refine wpAny_bind (wpAny_of_eq (a := some ((xs.size : Nat) : Int)) rfl ?_)
  refine wpAny_bind (wpAny_field (s := { s with toks := s.toks + 1 + 1 }) ho hd (x := rawInt ((xs.size : Int) - 1)) rfl ?_)
  show wpAny _ A.in1 (if (xs.size : Int) < (xs.size : Int) - 1 + 1 then _ else _) _ _ _
  rw [if_neg (by omega)]
  have e : (xs.size : Int) - 1 + 1 = xs.size := by omega
  rw [e]
  exact wpAny_bind (wpAny_mkInt (wpAny_pure ⟨_, rfl, q _ _⟩))
theorem collect_rt {r t : Addr} {xs : Array Value} {Q : List Value → Shared → Prop} (hh : A.handled = none) (x : IsRt s.heap r t ((xs.size : Int) - 1)) (y : IsTup s.heap t xs) (ne : t ≠ r) (hz : xs.size ≤ sizeLine) (h0 : 0 < xs.size)
    (q : ∀ (hp : Heap) (tk : Nat) (acc : Array Value), (∀ b o, b ≠ r → s.heap.get? b = some o → hp.get? b = some o) → ItemsOf (bkAt xs) acc xs.size → Q acc.toList { s with heap := hp, toks := tk }) :
    wpAny (model prog w) A (collect (.ref r)) Q E s := by
  have W := (walks_rt (prog := prog) (w := w) (A := A.in1) hh ne hz).toS
  obtain ⟨o1, a1, _⟩ := id x
  obtain ⟨o2, a2, _⟩ := id y
  have n1 : s.heap.objs.size ≠ r := Nat.ne_of_gt (Heap.lt_size a1)
  have n2 : s.heap.objs.size ≠ t := Nat.ne_of_gt (Heap.lt_size a2)
  have n3 : s.heap.objs.size ∉ [r, t] := by simp [n1, n2]
  unfold collect
  refine wpAny_bind (wpAny_runValue (codeAny_builtin PySem.F.entry_proto_collect ?_))
  rw [Around.under_plainId PySem.F.plain_proto_collect _]
  show wpAny _ A.in1 (newList [] >>= fun z => again (.builtin "list.__iadd__" ⟨[z, .ref r], []⟩)) _ _ s
  refine wpAny_bind (wpAny_newObj_type (wpAny_pure ⟨plainId_quiet PySem.F.plain_list_iadd _, codeAny_builtin PySem.F.entry_list_iadd ?_⟩))
  rw [Around.under_plainId PySem.F.plain_list_iadd _]
  generalize hob : ({ cls := .type "list", data := .seq ([] : List Value).toArray } : Obj) = ob
  have b1 : (s.heap.push ob).get? s.heap.objs.size = some { cls := .type "list", data := .seq ([] : List Value).toArray } := by rw [← hob]; exact Heap.get?_push_size _ rfl
  have x1 : IsRt (s.heap.push ob) r t ((xs.size : Int) - 1) := x.at fun o e => Heap.get?_push_of_some _ e
  have y1 : IsTup (s.heap.push ob) t xs := by obtain ⟨o, e, c⟩ := y; exact ⟨o, Heap.get?_push_of_some _ e, c⟩
  have T1 : ({ s with heap := s.heap.push ob } : Shared).TypeIs (.ref r) "reversed" := IsRt.typeIs (s := { s with heap := s.heap.push ob }) x1
  have d1 : Builtin.List.listSameRef (.ref s.heap.objs.size) (.ref r) = false := by simp [Builtin.List.listSameRef, n1]
  show wpAny _ A.in1 (Builtin.List.listExtendWith (.ref s.heap.objs.size) (.ref r) (.ref s.heap.objs.size)) _ _ _
  unfold Builtin.List.listExtendWith
  refine wpAny_bind (wpAny_typeOf T1 ?_)
  rw [if_neg (by rw [d1]; decide)]
  refine wpAny_bind (iter_rt (s := { s with heap := s.heap.push ob }) x1 (wpAny_bind (wpAny_holding ?_)))
  unfold Builtin.List.listLengthHint
  refine wpAny_bind (wpAny_specialOf T1 rv_nolen ?_)
  show wpAny _ A.in1 (specialOf (Value.ref r) (Str.ofString "__length_hint__") >>= _) _ _ _
  refine wpAny_bind (wpAny_specialOf T1 rv_hint ?_)
  generalize hid : ("reversed.__length_hint__" : String) = nm
  wp_delta
  rw [show splitId nm = some ("reversed", "__length_hint__") from by subst hid; decide +kernel]
  subst hid
  refine wpAny_bind (wpAny_isInstance (b := true) T1 (by rw [isSubtype_type]; kernel_rfl) ?_)
  show wpAny _ A.in1 (rule "list.length-hint.hint" >>= fun _ => bindSpecial (.builtin "reversed.__length_hint__") (.ref r) >>= _) _ _ _
  refine wpAny_bind (wpAny_rule (wpAny_bind ?_))
  rw [rv_bind]
  refine wpAny_pure ?_
  show wpAny _ A.in1 ((call (.builtin "reversed.__length_hint__") [.ref r]).attempt >>= _) _ _ _
  refine wpAny_bind (wpAny_attempt (hint_rt (s := { s with heap := s.heap.push ob }) x1 y1 hz fun u tk => ?_))
  show wpAny _ A.in1 (asInt? (.int (xs.size : Int) u) >>= _) _ _ _
  rw [show asInt? (.int (xs.size : Int) u) = pure (some (xs.size : Int)) from rfl]
  refine wpAny_bind ?_
  refine wpAny_pure ?_
  have l1 := fit1 hz
  have l2 := fit2 hz
  have l3 := fit3 h0
  show wpAny _ A.in1 (if (!Builtin.List.listFitsIndex (xs.size : Int)) = true then _ else _) _ _ _
  rw [l1, if_neg (by decide)]
  show wpAny _ A.in1 (if (xs.size : Int) < 0 then _ else _) _ _ _
  rw [if_neg (by omega)]
  show wpAny _ A.in1 (if Builtin.List.listTooLong ((xs.size : Int)).toNat = true then _ else _) _ _ _
  rw [l2, if_neg (by decide)]
  refine wpAny_pure ?_
  rw [l3]
  show wpAny _ A.in1 (rule "list.extend.makes-room" >>= fun _ => Builtin.List.listTouch (.ref s.heap.objs.size) >>= fun _ => again (.builtin "list.extend.loop" ⟨[.ref s.heap.objs.size, .ref r, .ref s.heap.objs.size], []⟩)) _ _ _
  refine wpAny_bind (wpAny_rule (wpAny_bind ?_))
  show wpAny _ A.in1 (updateSeq s.heap.objs.size (·.push .none) >>= fun _ => updateSeq s.heap.objs.size (·.pop)) _ _ _
  refine wpAny_bind (wpAny_updateSeq (s := { s with heap := s.heap.push ob, toks := tk }) b1 rfl ?_ (Nat.zero_le _) (Nat.succ_le_succ (Nat.zero_le _)))
  have b2 := Heap.get?_update_self (Obj.mapSeq (·.push Value.none)) b1 rfl
  refine wpAny_updateSeq (s := { s with heap := (s.heap.push ob).update s.heap.objs.size (Obj.mapSeq (·.push Value.none)), toks := tk }) b2 rfl ?_ (show 1 ≤ sizeLine by decide) (Nat.zero_le _)
  have b3 := Heap.get?_update_self (Obj.mapSeq (·.pop)) b2 rfl
  have old : ∀ b o, b ≠ s.heap.objs.size → (s.heap.push ob).get? b = some o → (((s.heap.push ob).update s.heap.objs.size (Obj.mapSeq (·.push Value.none))).update s.heap.objs.size (Obj.mapSeq (·.pop))).get? b = some o :=
    fun b o hb e => (Heap.get?_update_other _ _ (Ne.symm hb)).trans ((Heap.get?_update_other _ _ (Ne.symm hb)).trans e)
  have x3 : IsRt (((s.heap.push ob).update s.heap.objs.size (Obj.mapSeq (·.push Value.none))).update s.heap.objs.size (Obj.mapSeq (·.pop))) r t ((xs.size : Int) - 1) := x1.at fun o e => old r o (Ne.symm n1) e
  have y3 : IsTup (((s.heap.push ob).update s.heap.objs.size (Obj.mapSeq (·.push Value.none))).update s.heap.objs.size (Obj.mapSeq (·.pop))) t xs := by obtain ⟨o, e, c⟩ := y1; exact ⟨o, old t o (Ne.symm n2) e, c⟩
  have e0 : (xs.size : Int) - 1 - ((0 : Nat) : Int) = (xs.size : Int) - 1 := by omega
  refine wpAny_pure ⟨plainId_quiet PySem.F.plain_extend_loop _, codeAny_extend_loopS W hz _ n3 _ xs.size 0 _ _ _ rfl (Nat.zero_le _) ⟨Nat.zero_le _, by rw [e0]; exact x3, y3⟩ b3 (ItemsOf.nil _) fun s2 acc c hm hS hacc => ?_⟩
  show wpAny _ A (load s.heap.objs.size >>= _) _ _ s2
  refine wpAny_bind (wpAny_load hS (wpAny_pure ?_))
  rw [Moved.eq_with hm]
  refine q s2.heap s2.toks acc (fun b o hb e => hm.heap b o (fun hmem => ?_) (old b o (fun z => absurd (Heap.lt_size e) (by rw [z]; exact Nat.lt_irrefl _)) (Heap.get?_push_of_some _ e))) hacc
  rcases List.mem_cons.mp hmem with e' | hmem
  · exact absurd (Heap.lt_size e) (by rw [e']; exact Nat.lt_irrefl _)
  · exact hb (List.mem_singleton.mp hmem)
theorem code_tup_rt {r t : Addr} {xs : Array Value} {Q1 : Value → Shared → Prop} (hh : A.handled = none) (x : IsRt s.heap r t ((xs.size : Int) - 1)) (y : IsTup s.heap t xs) (ne : t ≠ r) (hz : xs.size ≤ sizeLine) (h0 : 0 < xs.size)
    (q : ∀ (hp : Heap) (tk : Nat) (acc : Array Value), (∀ b o, b ≠ r → s.heap.get? b = some o → hp.get? b = some o) → ItemsOf (bkAt xs) acc xs.size → Q1 (.ref hp.objs.size) { s with heap := hp.push { cls := .type "tuple", data := .seq acc }, toks := tk }) :
    codeAny (model prog w) A (.call (.builtin "tuple.__new__") ⟨[.type "tuple", .ref r], []⟩) (wants Q1 E) s := by
  refine codeAny_of_tree ?_
  show wpAny _ A.in1 (do checkBuiltinCall "tuple.__new__" ⟨[.type "tuple", .ref r], []⟩; again (.builtin "tuple.__new__" ⟨[.type "tuple", .ref r], []⟩)) _ _ s
  refine wpAny_bind (wpAny_of_eq (PySem.F.newCall_tuple_1 _) (wpAny_pure ⟨plainId_quiet PySem.F.plain_tuple_new _, codeAny_builtin PySem.F.entry_tuple_new ?_⟩))
  rw [Around.under_plainId PySem.F.plain_tuple_new _]
  have f1 := sub_tuple_self
  have f2 := init_tuple_lookup
  have f3 := madeHere_tuple
  have T1 : s.TypeIs (.ref r) "reversed" := x.typeIs
  have h1 : A.in1.handled = none := hh
  wp_walk using wpAny_typeOf T1, collect_rt (A := A.in1) h1 x y ne hz h0
  intro hp tk acc hk hacc
  show wpAny _ _ (Builtin.Tuple.tupleExact acc.toList.toArray >>= fun v => ret v) _ _ _
  unfold Builtin.Tuple.tupleExact
  have e : acc.toList.toArray = acc := by simp
  rw [e]
  exact wpAny_bind (wpAny_newObj_type (wpAny_pure (q hp tk acc hk hacc)) (by show acc.size ≤ sizeLine; rw [hacc.1]; exact hz))
theorem call_tup_rt {r t : Addr} {xs : Array Value} {Q : Value → Shared → Prop} (hh : A.handled = none) (x : IsRt s.heap r t ((xs.size : Int) - 1)) (y : IsTup s.heap t xs) (ne : t ≠ r) (hz : xs.size ≤ sizeLine) (h0 : 0 < xs.size)
    (q : ∀ (hp : Heap) (tk : Nat) (acc : Array Value), (∀ b o, b ≠ r → s.heap.get? b = some o → hp.get? b = some o) → ItemsOf (bkAt xs) acc xs.size → Q (.ref hp.objs.size) { s with heap := hp.push { cls := .type "tuple", data := .seq acc }, toks := tk }) :
    wpAny (model prog w) A (call (.type "tuple") [.ref r]) Q E s := by
  refine callType_codes (Q₁ := fun ob s1 => s1.TypeIs ob "tuple" ∧ Q ob s1) PySem.F.called_tuple (PySem.F.typeCall_tuple_1 _) PySem.F.entry_object_init
    (code_tup_rt (A := A.in1) hh x y ne hz h0 fun hp tk acc hk hacc => ⟨⟨_, Heap.get?_push_size _ rfl, rfl⟩, q hp tk acc hk hacc⟩) fun ob s1 hs1 => ?_
  exact ⟨hs1.1, PySem.F.args_object_init_2 ob _, object_init_meets PySem.F.called_tuple.init.lookup PySem.F.called_tuple.made (by decide) prog w A.in1 _ s1 ⟨hs1.1, rfl, hs1.2⟩⟩
end
/-- tuple(reversed(x)), x a tuple -/
def tTupRt (K : PySem.W.Frag) (te : TE) : TE := fun σ H Q => te σ H fun v H1 => ∃ (a : Addr) (xs : List V), v = .ref a ∧ SqT K H1 a xs ∧ xs ≠ [] ∧ ∀ q, H1 q = none → Q (.ref q) (upd H1 q (.tup xs.reverse))
section
variable {X : Cx}
theorem pe_tupRt {e : Expr} {te : TE} {p p2 pos pos2 : Pos} (hc : X.calm = true) (hg : Gl X "tuple") (hm : X.mg "tuple" = none) (hg2 : Gl X "reversed") (hm2 : X.mg "reversed" = none) (he : PE X e te)
    (hs : starEach [e] X.env = (false, eval e X.env) :: starEach [] X.env := by rfl)
    (hs2 : starEach [.Call (.Name "reversed" p2) [e] [] pos2] X.env = (false, eval (.Call (.Name "reversed" p2) [e] [] pos2) X.env) :: starEach [] X.env := by rfl) :
    PE X (.Call (.Name "tuple" p) [.Call (.Name "reversed" p2) [e] [] pos2] [] pos) (tTupRt X.K te) := by
  refine ⟨fun pins s σ H Q I h => ?_⟩
  refine Call_ (ld_blt I hg hm boot_tuple (PyProof.Rows.callWith_type1 (args_cons (Call_ (ld_blt I hg2 hm2 PyProof.Rows.boot_reversed (PyProof.Rows.callWith_type1 (args_cons (thn (he.run pins s σ H _ I h) fun u s1 ⟨v, H1, I1, r1, q1⟩ => args_nil ?_) hs) hs rfl))) hs2) hs2 rfl))
  obtain ⟨a, xs, ev, hq, hxne, q⟩ := q1
  subst ev
  obtain rfl : u = Value.ref a := r1
  obtain ⟨its, rv, y, hz⟩ := I1.tuple hq
  have hl := rv.length
  have hn := line63
  refine call_reversed_tup y (fun A E Q k => len_tuple y (by simp only [List.size_toArray] <;> omega) k) (args_nil ?_)
  obtain ⟨f0, f1, f2, f3, f4, f5⟩ := I1.fpOk (H' := H1) (b := s1.heap.objs.size) (Nat.le_refl _) (I1.hok.fresh (Nat.le_refl _))
  have I2 : Inv X pins σ H1 { s1 with heap := s1.heap.push (rtObj a ((its.toArray.size : Int) - 1)), toks := s1.toks + 1 + 1 } := I1.kept (t' := s1.toks + 1 + 1) fun b o e => Heap.get?_push_of_some _ e
  obtain ⟨ol, hol, hcl⟩ := id y
  have ne : a ≠ s1.heap.objs.size := Nat.ne_of_lt (Heap.lt_size hol)
  refine call_tup_rt (s := { s1 with heap := s1.heap.push (rtObj a ((its.toArray.size : Int) - 1)), toks := s1.toks + 1 + 1 }) (I1.ok.hd hc) ⟨_, Heap.get?_push_size _ rfl, rfl, rfl⟩ ⟨ol, Heap.get?_push_of_some _ hol, hcl⟩ ne (by rw [List.size_toArray, ← hl]; exact hz) (by rw [List.size_toArray, ← hl]; exact List.length_pos_iff.mpr hxne) fun h' tk acc hk hi => ?_
  have I3 : Inv X pins σ H1 { s1 with heap := h', toks := tk } := I2.turned (t' := tk) (fun b o hb e => hk b o hb e) f0 f1 f3 f4 f5
  refine ⟨.ref h'.objs.size, upd H1 h'.objs.size (.tup xs.reverse), I3.laid (t' := tk) (fun c o e => Heap.get?_push_of_some _ e) (Nat.le_refl _) (show ObjOk X.prog X.w _ _ _ (.tup xs.reverse) from ⟨by rw [List.length_reverse]; exact hz, acc.toList, vals_rev rv hi, ?_⟩), rfl, q _ (I3.hok.fresh (Nat.le_refl _))⟩
  rw [Array.toArray_toList]
  exact IsTup.new _ _
end
end Hx
namespace K21
open PySem PySem.Spec PyProof.Rows L2 Hx Hd
open Evl (pss_cut tCut ex_l ex_t)
open M21
theorem ga_tup {s L p : Addr} {G0 H0 G H : Hp} (h : Ga s L G0 H0 G H) (hp : H p = none) {xs : List V} {ds : List PyData} (hd : DtAll G xs ds) : Ga s L G0 H0 (upd G p (.tup xs)) (upd H p (.tup xs)) ∧ Ex G (upd G p (.tup xs)) ∧ Dt (upd G p (.tup xs)) (.ref p) (.tuple ds) :=
  ⟨h.new hp, h.fr hp, .tup upd_same (ex_dta (h.fr hp) hd)⟩
theorem ga_lst {s L p : Addr} {G0 H0 G H : Hp} (h : Ga s L G0 H0 G H) (hp : H p = none) {xs : List V} {ds : List PyData} (hd : DtAll G xs ds) : Ga s L G0 H0 (upd G p (.lst xs)) (upd H p (.lst xs)) ∧ Ex G (upd G p (.lst xs)) ∧ Dt (upd G p (.lst xs)) (.ref p) (.list ds) :=
  ⟨h.new hp, h.fr hp, .lst upd_same (ex_dta (h.fr hp) hd)⟩
def nearD : List PyData := [.tuple [.str (Str.ofString "truth"), .str (Str.ofString "a")], .tuple [.str (Str.ofString "truths"), .str (Str.ofString "a")], .tuple [.str (Str.ofString "truth")], .tuple [.str (Str.ofString "truth"), .int 5], .tuple [.str (Str.ofString "truth"), .str (Str.ofString "a"), .str (Str.ofString "b")], .list [.str (Str.ofString "truth"), .str (Str.ofString "a")], .tuple [.str (Str.ofString "inner")], .tuple [.str (Str.ofString "equal"), .str (Str.ofString "b"), .str (Str.ofString "a")], .tuple [.str (Str.ofString "equal"), .str (Str.ofString "a")], .tuple [.str (Str.ofString "less"), .str (Str.ofString "a")], .tuple [.str (Str.ofString "less"), .str (Str.ofString "a"), .str (Str.ofString "b"), .int (-1)], .tuple [.str (Str.ofString "bound"), .str (Str.ofString "a"), .str (Str.ofString "b")], .tuple [.str (Str.ofString "bound"), .str (Str.ofString "a"), .str (Str.ofString "b"), .int 0], .tuple [.str (Str.ofString "bound"), .str (Str.ofString "a"), .str (Str.ofString "b"), .bool true], .tuple [.str (Str.ofString "bound"), .str (Str.ofString "a"), .str (Str.ofString "b"), .str (Str.ofString "c")], .tuple [.str (Str.ofString ""), .str (Str.ofString "a")], .str (Str.ofString "truth"), .tuple [], .none]
theorem near_bad : ∀ i : Fin 19, i.val = 0 ∨ atomD (nearD.getD i.val .none) = false := by decide +kernel
mutual
def fitB : Nat → PyData → Bool
  | 0, .list _ => false
  | 0, .tuple _ => false
  | 0, .dict _ => false
  | n + 1, .list ds => decide (ds.length ≤ 100000) && fitBs n ds
  | n + 1, .tuple ds => decide (ds.length ≤ 100000) && fitBs n ds
  | _ + 1, .dict es => decide (es.length = 0)
  | _, _ => true
def fitBs : Nat → List PyData → Bool
  | _, [] => true
  | n, d :: ds => fitB n d && fitBs n ds
end
theorem fitBs_iff {n : Nat} : ∀ {ds : List PyData}, fitBs n ds = true ↔ ∀ d ∈ ds, fitB n d = true
  | [] => by simp [fitBs]
  | d :: ds => by rw [fitBs, Bool.and_eq_true, fitBs_iff]; simp
theorem fit_of : ∀ (n : Nat) (d : PyData), fitB n d = true → Fit n d
  | 0, d, h => by
    cases d <;> first | (simp [fitB] at h; done) | exact ⟨fun ds => by simp, fun es => by simp⟩
  | n + 1, d, h => by
    refine ⟨fun ds hd => ?_, fun es hd => ?_⟩
    · have h2 : (decide (ds.length ≤ 100000) && fitBs n ds) = true := by
        rcases hd with rfl | rfl
        · rw [fitB] at h; exact h
        · rw [fitB] at h; exact h
      rw [Bool.and_eq_true] at h2
      exact ⟨of_decide_eq_true h2.1, fun e he => fit_of n e (fitBs_iff.mp h2.2 e he)⟩
    · subst hd
      rw [fitB] at h
      have := of_decide_eq_true h
      rw [List.length_eq_zero_iff.mp this]
      exact ⟨by simp, by simp⟩
theorem fitB_up : ∀ (n : Nat) (d : PyData), fitB n d = true → fitB (n + 1) d = true
  | 0, d, h => by cases d <;> first | (simp [fitB] at h; done) | simp [fitB]
  | n + 1, d, h => by
    cases d with
    | list ds =>
      rw [fitB, Bool.and_eq_true] at h ⊢
      exact ⟨h.1, fitBs_iff.mpr fun e he => fitB_up n e (fitBs_iff.mp h.2 e he)⟩
    | tuple ds =>
      rw [fitB, Bool.and_eq_true] at h ⊢
      exact ⟨h.1, fitBs_iff.mpr fun e he => fitB_up n e (fitBs_iff.mp h.2 e he)⟩
    | dict es => rw [fitB] at h ⊢; exact h
    | _ => rfl
theorem near_fit : ∀ i : Fin 19, fitB 1 (nearD.getD i.val .none) = true := by decide +kernel
abbrev n0D : PyData := .tuple [.str (Str.ofString "truth"), .str (Str.ofString "a")]
def near0D : List PyData := [.tuple [n0D, .int 1], .tuple [n0D, .none], .tuple [n0D], .list [n0D, .bool true], n0D, .tuple [n0D, .bool true, .bool true], .tuple [.bool true, n0D]]
theorem near0_bad : near0D.all (fun d => !litD d && fitB 2 d) = true := by decide +kernel
theorem lit_not (a : PyData) (b : Bool) (h : atomD a = false) : litD (.tuple [a, .bool b]) = false := by simp [litD, isT, h]
section
variable {P : Program} {w : World} {K : PySem.W.Frag} {mg : Str → Option Value} {base : Heap}
def spBadLit : Sp := fun vs H Q _ => ∃ (s L : Addr) (G : Hp), vs = [.ref s] ∧ Strm H s L ∧ Ex G H ∧ G s = none ∧ ∀ v d G2 H2, Ga s L G H G2 H2 → Dt G2 v d → litD d = false → fitB 2 d = true → Q v H2
abbrev N_law_bad_literal : List Str := ["stream", "near", "at"]
theorem sc_law_bad_literal : FnScope N_law_bad_literal ["stream"] (defScope (top 48)) := ⟨rfl, rfl, rfl, by decide +kernel, rfl, by decide +kernel, by decide +kernel⟩
theorem ok_badlit (T : Txt K mg) (C__law_next : Cal P w K mg base CX0 1 "_law_next" ["stream", "many"] spNext) (C__law_pick : Cal P w K mg base CX0 2 "_law_pick" ["stream", "rows"] (spPick K)) : Cal P w K mg base CX0 3 "_law_bad_literal" ["stream"] spBadLit := by
  refine mkCal T.g__law_bad_literal T.d__law_bad_literal sc_law_bad_literal (fun _ _ _ _ _ _ us hl => match us, hl with | [_], _ => rfl) (fun vs H Q E h => ?_) fun cdv A outer s0 H vs Q E hr h => ?_
  · obtain ⟨_, _, _, rfl, _⟩ := h; rfl
  obtain ⟨s, L, G, rfl, st, eG, gs, q⟩ := h
  refine ⟨_, (pss_cons (ps_set (i := 1) sc_law_bad_literal.nd rfl (Or.inl rfl) (pe_lst (pa_cons (pe_tup (pa_cons pe_str (pa_cons pe_str pa_nil))) (pa_cons (pe_tup (pa_cons pe_str (pa_cons pe_str pa_nil))) (pa_cons (pe_tup (pa_cons pe_str pa_nil)) (pa_cons (pe_tup (pa_cons pe_str (pa_cons pe_int pa_nil))) (pa_cons (pe_tup (pa_cons pe_str (pa_cons pe_str (pa_cons pe_str pa_nil)))) (pa_cons (pe_lst (pa_cons pe_str (pa_cons pe_str pa_nil))) (pa_cons (pe_tup (pa_cons pe_str pa_nil)) (pa_cons (pe_tup (pa_cons pe_str (pa_cons pe_str (pa_cons pe_str pa_nil)))) (pa_cons (pe_tup (pa_cons pe_str (pa_cons pe_str pa_nil))) pa_nil)))))))))))
      (pss_cons (ps_set (i := 1) sc_law_bad_literal.nd rfl (Or.inl rfl) (pe_op op_cat (pv 1) (pe_lst (pa_cons (pe_tup (pa_cons pe_str (pa_cons pe_str pa_nil))) (pa_cons (pe_tup (pa_cons pe_str (pa_cons pe_str (pa_cons pe_str (pa_cons (pe_un un_neg pe_int) pa_nil))))) (pa_cons (pe_tup (pa_cons pe_str (pa_cons pe_str (pa_cons pe_str pa_nil)))) (pa_cons (pe_tup (pa_cons pe_str (pa_cons pe_str (pa_cons pe_str (pa_cons pe_int pa_nil))))) (pa_cons (pe_tup (pa_cons pe_str (pa_cons pe_str (pa_cons pe_str (pa_cons pe_bl pa_nil))))) (pa_cons (pe_tup (pa_cons pe_str (pa_cons pe_str (pa_cons pe_str (pa_cons pe_str pa_nil))))) (pa_cons (pe_tup (pa_cons pe_str (pa_cons pe_str pa_nil))) (pa_cons pe_str (pa_cons (pe_tup pa_nil) (pa_cons pe_non pa_nil)))))))))))))
      (pss_cons (ps_set (i := 2) sc_law_bad_literal.nd rfl (Or.inl rfl) (pe_cal (E := E0) C__law_next (hr.mono (by decide)) pass0 (pa_cons (pv 0) (pa_cons (pe_callB (lenL (K := K)) (by rfl) T.n_len PySem.boot_len (pa_cons (pv 1) pa_nil)) pa_nil))))
      (pss_cons (ps_if (pt_cmpR op_eq (pv 2) pe_int (nomark _)) (pss_one (ps_ret (pe_cal (E := E0) C__law_pick (hr.mono (by decide)) pass0 (pa_cons (pv 0) (pa_cons (pe_tup (pa_cons (pe_tup (pa_cons (pe_ix (ixL (K := K)) (pv 1) pe_int (fun _ _ => rfl)) (pa_cons pe_int pa_nil))) (pa_cons (pe_tup (pa_cons (pe_ix (ixL (K := K)) (pv 1) pe_int (fun _ _ => rfl)) (pa_cons pe_non pa_nil))) (pa_cons (pe_tup (pa_cons (pe_ix (ixL (K := K)) (pv 1) pe_int (fun _ _ => rfl)) pa_nil)) (pa_cons (pe_lst (pa_cons (pe_ix (ixL (K := K)) (pv 1) pe_int (fun _ _ => rfl)) (pa_cons pe_bl pa_nil))) (pa_cons (pe_ix (ixL (K := K)) (pv 1) pe_int (fun _ _ => rfl)) (pa_cons (pe_tup (pa_cons (pe_ix (ixL (K := K)) (pv 1) pe_int (fun _ _ => rfl)) (pa_cons pe_bl (pa_cons pe_bl pa_nil)))) (pa_cons (pe_tup (pa_cons pe_bl (pa_cons (pe_ix (ixL (K := K)) (pv 1) pe_int (fun _ _ => rfl)) pa_nil))) pa_nil)))))))) pa_nil))))) pss_nil)
      (pss_one (ps_ret (pe_tup (pa_cons (pe_ix (ixL (K := K)) (pv 1) (pv 2) (fun _ _ => rfl)) (pa_cons (pe_cmpR op_eq (pe_cal (E := E0) C__law_next (hr.mono (by decide)) pass0 (pa_cons (pv 0) (pa_cons pe_int pa_nil))) pe_int (nomark _)) pa_nil))))))))), ?_⟩
  have ga0 := Ga.refl eG st gs
  have acc0_0 : DtAll G [] [] := .nil
  refine ⟨szl 2 (by omega), fun p1 hp1 => ?_⟩
  obtain ⟨ga1, e1, d1⟩ := ga_tup ga0 hp1 (xs := [.str "truth", .str "a"]) (ds := [.str (Str.ofString "truth"), .str (Str.ofString "a")]) (.cons (.str _) (.cons (.str _) .nil))
  have a1 := ex_dta e1 acc0_0
  generalize upd G p1 (.tup [.str "truth", .str "a"]) = G1 at ga1 e1 d1 a1
  generalize upd H p1 (.tup [.str "truth", .str "a"]) = H1 at ga1
  replace a1 := Hx.dta_app a1 (.cons d1 .nil)
  refine ⟨szl 2 (by omega), fun p2 hp2 => ?_⟩
  obtain ⟨ga2, e2, d2⟩ := ga_tup ga1 hp2 (xs := [.str "truths", .str "a"]) (ds := [.str (Str.ofString "truths"), .str (Str.ofString "a")]) (.cons (.str _) (.cons (.str _) .nil))
  have a2 := ex_dta e2 a1
  generalize upd G1 p2 (.tup [.str "truths", .str "a"]) = G2 at ga2 e2 d2 a2
  generalize upd H1 p2 (.tup [.str "truths", .str "a"]) = H2 at ga2
  replace a2 := Hx.dta_app a2 (.cons d2 .nil)
  refine ⟨szl 1 (by omega), fun p3 hp3 => ?_⟩
  obtain ⟨ga3, e3, d3⟩ := ga_tup ga2 hp3 (xs := [.str "truth"]) (ds := [.str (Str.ofString "truth")]) (.cons (.str _) .nil)
  have a3 := ex_dta e3 a2
  generalize upd G2 p3 (.tup [.str "truth"]) = G3 at ga3 e3 d3 a3
  generalize upd H2 p3 (.tup [.str "truth"]) = H3 at ga3
  replace a3 := Hx.dta_app a3 (.cons d3 .nil)
  refine ⟨szl 2 (by omega), fun p4 hp4 => ?_⟩
  obtain ⟨ga4, e4, d4⟩ := ga_tup ga3 hp4 (xs := [.str "truth", .int 5]) (ds := [.str (Str.ofString "truth"), .int 5]) (.cons (.str _) (.cons (.int _) .nil))
  have a4 := ex_dta e4 a3
  generalize upd G3 p4 (.tup [.str "truth", .int 5]) = G4 at ga4 e4 d4 a4
  generalize upd H3 p4 (.tup [.str "truth", .int 5]) = H4 at ga4
  replace a4 := Hx.dta_app a4 (.cons d4 .nil)
  refine ⟨szl 3 (by omega), fun p5 hp5 => ?_⟩
  obtain ⟨ga5, e5, d5⟩ := ga_tup ga4 hp5 (xs := [.str "truth", .str "a", .str "b"]) (ds := [.str (Str.ofString "truth"), .str (Str.ofString "a"), .str (Str.ofString "b")]) (.cons (.str _) (.cons (.str _) (.cons (.str _) .nil)))
  have a5 := ex_dta e5 a4
  generalize upd G4 p5 (.tup [.str "truth", .str "a", .str "b"]) = G5 at ga5 e5 d5 a5
  generalize upd H4 p5 (.tup [.str "truth", .str "a", .str "b"]) = H5 at ga5
  replace a5 := Hx.dta_app a5 (.cons d5 .nil)
  refine ⟨szl 2 (by omega), fun p6 hp6 => ?_⟩
  obtain ⟨ga6, e6, d6⟩ := ga_lst ga5 hp6 (xs := [.str "truth", .str "a"]) (ds := [.str (Str.ofString "truth"), .str (Str.ofString "a")]) (.cons (.str _) (.cons (.str _) .nil))
  have a6 := ex_dta e6 a5
  generalize upd G5 p6 (.lst [.str "truth", .str "a"]) = G6 at ga6 e6 d6 a6
  generalize upd H5 p6 (.lst [.str "truth", .str "a"]) = H6 at ga6
  replace a6 := Hx.dta_app a6 (.cons d6 .nil)
  refine ⟨szl 1 (by omega), fun p7 hp7 => ?_⟩
  obtain ⟨ga7, e7, d7⟩ := ga_tup ga6 hp7 (xs := [.str "inner"]) (ds := [.str (Str.ofString "inner")]) (.cons (.str _) .nil)
  have a7 := ex_dta e7 a6
  generalize upd G6 p7 (.tup [.str "inner"]) = G7 at ga7 e7 d7 a7
  generalize upd H6 p7 (.tup [.str "inner"]) = H7 at ga7
  replace a7 := Hx.dta_app a7 (.cons d7 .nil)
  refine ⟨szl 3 (by omega), fun p8 hp8 => ?_⟩
  obtain ⟨ga8, e8, d8⟩ := ga_tup ga7 hp8 (xs := [.str "equal", .str "b", .str "a"]) (ds := [.str (Str.ofString "equal"), .str (Str.ofString "b"), .str (Str.ofString "a")]) (.cons (.str _) (.cons (.str _) (.cons (.str _) .nil)))
  have a8 := ex_dta e8 a7
  generalize upd G7 p8 (.tup [.str "equal", .str "b", .str "a"]) = G8 at ga8 e8 d8 a8
  generalize upd H7 p8 (.tup [.str "equal", .str "b", .str "a"]) = H8 at ga8
  replace a8 := Hx.dta_app a8 (.cons d8 .nil)
  refine ⟨szl 2 (by omega), fun p9 hp9 => ?_⟩
  obtain ⟨ga9, e9, d9⟩ := ga_tup ga8 hp9 (xs := [.str "equal", .str "a"]) (ds := [.str (Str.ofString "equal"), .str (Str.ofString "a")]) (.cons (.str _) (.cons (.str _) .nil))
  have a9 := ex_dta e9 a8
  generalize upd G8 p9 (.tup [.str "equal", .str "a"]) = G9 at ga9 e9 d9 a9
  generalize upd H8 p9 (.tup [.str "equal", .str "a"]) = H9 at ga9
  replace a9 := Hx.dta_app a9 (.cons d9 .nil)
  refine ⟨szl 9 (by omega), fun l1 hl1 => ?_⟩
  have ga10 := ga9.new hl1 (o := .lst [.ref p1, .ref p2, .ref p3, .ref p4, .ref p5, .ref p6, .ref p7, .ref p8, .ref p9])
  have e10 : Ex G9 _ := ga9.fr hl1 (o := .lst [.ref p1, .ref p2, .ref p3, .ref p4, .ref p5, .ref p6, .ref p7, .ref p8, .ref p9])
  have acc10 := ex_dta e10 a9
  have hl1' : upd G9 l1 (.lst [.ref p1, .ref p2, .ref p3, .ref p4, .ref p5, .ref p6, .ref p7, .ref p8, .ref p9]) l1 = some (.lst [.ref p1, .ref p2, .ref p3, .ref p4, .ref p5, .ref p6, .ref p7, .ref p8, .ref p9]) := upd_same
  generalize upd G9 l1 (.lst [.ref p1, .ref p2, .ref p3, .ref p4, .ref p5, .ref p6, .ref p7, .ref p8, .ref p9]) = G10 at ga10 e10 acc10 hl1'
  generalize upd H9 l1 (.lst [.ref p1, .ref p2, .ref p3, .ref p4, .ref p5, .ref p6, .ref p7, .ref p8, .ref p9]) = H10 at ga10
  refine ⟨_, rfl, ?_⟩
  have acc0_9 : DtAll G10 [] [] := .nil
  refine ⟨szl 2 (by omega), fun p11 hp11 => ?_⟩
  obtain ⟨ga11, e11, d11⟩ := ga_tup ga10 hp11 (xs := [.str "less", .str "a"]) (ds := [.str (Str.ofString "less"), .str (Str.ofString "a")]) (.cons (.str _) (.cons (.str _) .nil))
  have a11 := ex_dta e11 acc0_9
  generalize upd G10 p11 (.tup [.str "less", .str "a"]) = G11 at ga11 e11 d11 a11
  generalize upd H10 p11 (.tup [.str "less", .str "a"]) = H11 at ga11
  replace a11 := Hx.dta_app a11 (.cons d11 .nil)
  refine ⟨1, rfl, szl 4 (by omega), fun p12 hp12 => ?_⟩
  obtain ⟨ga12, e12, d12⟩ := ga_tup ga11 hp12 (xs := [.str "less", .str "a", .str "b", .int (-1)]) (ds := [.str (Str.ofString "less"), .str (Str.ofString "a"), .str (Str.ofString "b"), .int (-1)]) (.cons (.str _) (.cons (.str _) (.cons (.str _) (.cons (.int _) .nil))))
  have a12 := ex_dta e12 a11
  generalize upd G11 p12 (.tup [.str "less", .str "a", .str "b", .int (-1)]) = G12 at ga12 e12 d12 a12
  generalize upd H11 p12 (.tup [.str "less", .str "a", .str "b", .int (-1)]) = H12 at ga12
  replace a12 := Hx.dta_app a12 (.cons d12 .nil)
  refine ⟨szl 3 (by omega), fun p13 hp13 => ?_⟩
  obtain ⟨ga13, e13, d13⟩ := ga_tup ga12 hp13 (xs := [.str "bound", .str "a", .str "b"]) (ds := [.str (Str.ofString "bound"), .str (Str.ofString "a"), .str (Str.ofString "b")]) (.cons (.str _) (.cons (.str _) (.cons (.str _) .nil)))
  have a13 := ex_dta e13 a12
  generalize upd G12 p13 (.tup [.str "bound", .str "a", .str "b"]) = G13 at ga13 e13 d13 a13
  generalize upd H12 p13 (.tup [.str "bound", .str "a", .str "b"]) = H13 at ga13
  replace a13 := Hx.dta_app a13 (.cons d13 .nil)
  refine ⟨szl 4 (by omega), fun p14 hp14 => ?_⟩
  obtain ⟨ga14, e14, d14⟩ := ga_tup ga13 hp14 (xs := [.str "bound", .str "a", .str "b", .int 0]) (ds := [.str (Str.ofString "bound"), .str (Str.ofString "a"), .str (Str.ofString "b"), .int 0]) (.cons (.str _) (.cons (.str _) (.cons (.str _) (.cons (.int _) .nil))))
  have a14 := ex_dta e14 a13
  generalize upd G13 p14 (.tup [.str "bound", .str "a", .str "b", .int 0]) = G14 at ga14 e14 d14 a14
  generalize upd H13 p14 (.tup [.str "bound", .str "a", .str "b", .int 0]) = H14 at ga14
  replace a14 := Hx.dta_app a14 (.cons d14 .nil)
  refine ⟨szl 4 (by omega), fun p15 hp15 => ?_⟩
  obtain ⟨ga15, e15, d15⟩ := ga_tup ga14 hp15 (xs := [.str "bound", .str "a", .str "b", .bl true]) (ds := [.str (Str.ofString "bound"), .str (Str.ofString "a"), .str (Str.ofString "b"), .bool true]) (.cons (.str _) (.cons (.str _) (.cons (.str _) (.cons (.bl _) .nil))))
  have a15 := ex_dta e15 a14
  generalize upd G14 p15 (.tup [.str "bound", .str "a", .str "b", .bl true]) = G15 at ga15 e15 d15 a15
  generalize upd H14 p15 (.tup [.str "bound", .str "a", .str "b", .bl true]) = H15 at ga15
  replace a15 := Hx.dta_app a15 (.cons d15 .nil)
  refine ⟨szl 4 (by omega), fun p16 hp16 => ?_⟩
  obtain ⟨ga16, e16, d16⟩ := ga_tup ga15 hp16 (xs := [.str "bound", .str "a", .str "b", .str "c"]) (ds := [.str (Str.ofString "bound"), .str (Str.ofString "a"), .str (Str.ofString "b"), .str (Str.ofString "c")]) (.cons (.str _) (.cons (.str _) (.cons (.str _) (.cons (.str _) .nil))))
  have a16 := ex_dta e16 a15
  generalize upd G15 p16 (.tup [.str "bound", .str "a", .str "b", .str "c"]) = G16 at ga16 e16 d16 a16
  generalize upd H15 p16 (.tup [.str "bound", .str "a", .str "b", .str "c"]) = H16 at ga16
  replace a16 := Hx.dta_app a16 (.cons d16 .nil)
  refine ⟨szl 2 (by omega), fun p17 hp17 => ?_⟩
  obtain ⟨ga17, e17, d17⟩ := ga_tup ga16 hp17 (xs := [.str "", .str "a"]) (ds := [.str (Str.ofString ""), .str (Str.ofString "a")]) (.cons (.str _) (.cons (.str _) .nil))
  have a17 := ex_dta e17 a16
  generalize upd G16 p17 (.tup [.str "", .str "a"]) = G17 at ga17 e17 d17 a17
  generalize upd H16 p17 (.tup [.str "", .str "a"]) = H17 at ga17
  replace a17 := Hx.dta_app a17 (.cons d17 .nil)
  have b17_7 := Hx.dta_app a17 (.cons (show Dt G17 (.str "truth") (.str (Str.ofString "truth")) from (.str _)) .nil)
  refine ⟨szl 0 (by omega), fun p18 hp18 => ?_⟩
  obtain ⟨ga18, e18, d18⟩ := ga_tup ga17 hp18 (xs := []) (ds := []) .nil
  have a18 := ex_dta e18 b17_7
  generalize upd G17 p18 (.tup []) = G18 at ga18 e18 d18 a18
  generalize upd H17 p18 (.tup []) = H18 at ga18
  replace a18 := Hx.dta_app a18 (.cons d18 .nil)
  have b18_9 := Hx.dta_app a18 (.cons (show Dt G18 (.non) (.none) from .non) .nil)
  have ee := (((((((e11.trans e12).trans e13).trans e14).trans e15).trans e16).trans e17).trans e18)
  refine ⟨szl 10 (by omega), fun l2 hl2 => ?_⟩
  have gb := ga18.new hl2 (o := .lst [.ref p11, .ref p12, .ref p13, .ref p14, .ref p15, .ref p16, .ref p17, .str "truth", .ref p18, .non])
  have eb : Ex G18 _ := ga18.fr hl2 (o := .lst [.ref p11, .ref p12, .ref p13, .ref p14, .ref p15, .ref p16, .ref p17, .str "truth", .ref p18, .non])
  have hl2' : upd G18 l2 (.lst [.ref p11, .ref p12, .ref p13, .ref p14, .ref p15, .ref p16, .ref p17, .str "truth", .ref p18, .non]) l2 = some (.lst [.ref p11, .ref p12, .ref p13, .ref p14, .ref p15, .ref p16, .ref p17, .str "truth", .ref p18, .non]) := upd_same
  have accA := ex_dta (ee.trans eb) acc10
  have accB := ex_dta eb b18_9
  have hl1b := (ee.trans eb) _ _ hl1'
  generalize upd G18 l2 (.lst [.ref p11, .ref p12, .ref p13, .ref p14, .ref p15, .ref p16, .ref p17, .str "truth", .ref p18, .non]) = Gb at gb eb hl2' accA accB hl1b
  generalize upd H18 l2 (.lst [.ref p11, .ref p12, .ref p13, .ref p14, .ref p15, .ref p16, .ref p17, .str "truth", .ref p18, .non]) = Hb at gb
  refine ⟨l1, l2, _, _, rfl, rfl, gb.ge _ _ hl1b, gb.ge _ _ hl2', szl 19 (by omega), fun l hl => ?_⟩
  have gc := gb.new hl (o := .lst ([.ref p1, .ref p2, .ref p3, .ref p4, .ref p5, .ref p6, .ref p7, .ref p8, .ref p9] ++ [.ref p11, .ref p12, .ref p13, .ref p14, .ref p15, .ref p16, .ref p17, .str "truth", .ref p18, .non]))
  have ec : Ex Gb _ := gb.fr hl (o := .lst ([.ref p1, .ref p2, .ref p3, .ref p4, .ref p5, .ref p6, .ref p7, .ref p8, .ref p9] ++ [.ref p11, .ref p12, .ref p13, .ref p14, .ref p15, .ref p16, .ref p17, .str "truth", .ref p18, .non]))
  have hl' : upd Gb l (.lst ([.ref p1, .ref p2, .ref p3, .ref p4, .ref p5, .ref p6, .ref p7, .ref p8, .ref p9] ++ [.ref p11, .ref p12, .ref p13, .ref p14, .ref p15, .ref p16, .ref p17, .str "truth", .ref p18, .non])) l = some (.lst ([.ref p1, .ref p2, .ref p3, .ref p4, .ref p5, .ref p6, .ref p7, .ref p8, .ref p9] ++ [.ref p11, .ref p12, .ref p13, .ref p14, .ref p15, .ref p16, .ref p17, .str "truth", .ref p18, .non])) := upd_same
  have acc : DtAll (upd Gb l (.lst ([.ref p1, .ref p2, .ref p3, .ref p4, .ref p5, .ref p6, .ref p7, .ref p8, .ref p9] ++ [.ref p11, .ref p12, .ref p13, .ref p14, .ref p15, .ref p16, .ref p17, .str "truth", .ref p18, .non]))) ([.ref p1, .ref p2, .ref p3, .ref p4, .ref p5, .ref p6, .ref p7, .ref p8, .ref p9] ++ [.ref p11, .ref p12, .ref p13, .ref p14, .ref p15, .ref p16, .ref p17, .str "truth", .ref p18, .non]) nearD := ex_dta ec (Hx.dta_app accA accB)
  generalize upd Gb l (.lst ([.ref p1, .ref p2, .ref p3, .ref p4, .ref p5, .ref p6, .ref p7, .ref p8, .ref p9] ++ [.ref p11, .ref p12, .ref p13, .ref p14, .ref p15, .ref p16, .ref p17, .str "truth", .ref p18, .non])) = Gc at gc ec hl' acc
  generalize upd Hb l (.lst ([.ref p1, .ref p2, .ref p3, .ref p4, .ref p5, .ref p6, .ref p7, .ref p8, .ref p9] ++ [.ref p11, .ref p12, .ref p13, .ref p14, .ref p15, .ref p16, .ref p17, .str "truth", .ref p18, .non])) = Hc at gc
  generalize hnl : ([.ref p1, .ref p2, .ref p3, .ref p4, .ref p5, .ref p6, .ref p7, .ref p8, .ref p9] ++ [.ref p11, .ref p12, .ref p13, .ref p14, .ref p15, .ref p16, .ref p17, .str "truth", .ref p18, .non] : List V) = nl at hl' acc
  have nlen : nl.length = 19 := by rw [← hnl]; rfl
  have hl'' := gc.ge _ _ hl'
  refine ⟨_, rfl, _, rfl, l, nl, rfl, .inl (SqL.of hl''), s, L, (nl.length : Int), rfl, gc.st, by omega, by omega, fun d H3 d0 d1 kp3 st3 => ?_⟩
  have gd := gc.next kp3 st3
  have hd' := gd.ge _ _ hl'
  obtain ⟨k, rfl⟩ : ∃ k : Nat, d = (k : Int) := ⟨d.toNat, by omega⟩
  have hk : k < 19 := by omega
  refine ⟨_, rfl, rfl, _, rfl, ?_⟩
  refine ite2 (fun h0 => ?_) (fun h0 => ?_)
  · have hn0 : nl[0]? = some (.ref p1) := by rw [← hnl]; rfl
    have hd0 : Dt Gc (.ref p1) n0D := by
      obtain ⟨dd, h1, h2⟩ := dta_get acc hn0
      have : nearD[0]? = some n0D := rfl
      rw [this] at h1
      exact (Option.some.inj h1) ▸ h2
    refine ⟨_, rfl, ?_⟩
    have r0 : DtAll Gc [] [] := .nil
    refine ⟨_, rfl, l, nl, 0, .ref p1, rfl, rfl, SqL.of (gd.ge _ _ (hl')), at_nat (i := 0) hn0, szl 2 (by omega), fun t1 ht1 => ?_⟩
    obtain ⟨j1, x1, y1⟩ := ga_tup gd ht1 (xs := [.ref p1, .int 1]) (ds := [n0D, .int 1]) (.cons hd0 (.cons (.int _) .nil))
    have q1 := ex_dt x1 _ _ hd0
    have hl_1 := x1 _ _ hl'
    have r10 := ex_dta x1 r0
    generalize upd Gc t1 (.tup [.ref p1, .int 1]) = J1 at j1 x1 y1 q1 hl_1 r10
    generalize upd H3 t1 (.tup [.ref p1, .int 1]) = I1 at j1
    have r11 := Hx.dta_app r10 (.cons y1 .nil)
    refine ⟨_, rfl, l, nl, 0, .ref p1, rfl, rfl, SqL.of (j1.ge _ _ (hl_1)), at_nat (i := 0) hn0, szl 2 (by omega), fun t2 ht2 => ?_⟩
    obtain ⟨j2, x2, y2⟩ := ga_tup j1 ht2 (xs := [.ref p1, .non]) (ds := [n0D, .none]) (.cons q1 (.cons .non .nil))
    have q2 := ex_dt x2 _ _ q1
    have hl_2 := x2 _ _ hl_1
    have r20 := ex_dta x2 r11
    generalize upd J1 t2 (.tup [.ref p1, .non]) = J2 at j2 x2 y2 q2 hl_2 r20
    generalize upd I1 t2 (.tup [.ref p1, .non]) = I2 at j2
    have r21 := Hx.dta_app r20 (.cons y2 .nil)
    refine ⟨_, rfl, l, nl, 0, .ref p1, rfl, rfl, SqL.of (j2.ge _ _ (hl_2)), at_nat (i := 0) hn0, szl 1 (by omega), fun t3 ht3 => ?_⟩
    obtain ⟨j3, x3, y3⟩ := ga_tup j2 ht3 (xs := [.ref p1]) (ds := [n0D]) (.cons q2 .nil)
    have q3 := ex_dt x3 _ _ q2
    have hl_3 := x3 _ _ hl_2
    have r30 := ex_dta x3 r21
    generalize upd J2 t3 (.tup [.ref p1]) = J3 at j3 x3 y3 q3 hl_3 r30
    generalize upd I2 t3 (.tup [.ref p1]) = I3 at j3
    have r31 := Hx.dta_app r30 (.cons y3 .nil)
    refine ⟨_, rfl, l, nl, 0, .ref p1, rfl, rfl, SqL.of (j3.ge _ _ (hl_3)), at_nat (i := 0) hn0, szl 2 (by omega), fun t4 ht4 => ?_⟩
    obtain ⟨j4, x4, y4⟩ := ga_lst j3 ht4 (xs := [.ref p1, .bl true]) (ds := [n0D, .bool true]) (.cons q3 (.cons (.bl _) .nil))
    have q4 := ex_dt x4 _ _ q3
    have hl_4 := x4 _ _ hl_3
    have r40 := ex_dta x4 r31
    generalize upd J3 t4 (.lst [.ref p1, .bl true]) = J4 at j4 x4 y4 q4 hl_4 r40
    generalize upd I3 t4 (.lst [.ref p1, .bl true]) = I4 at j4
    have r41 := Hx.dta_app r40 (.cons y4 .nil)
    refine ⟨_, rfl, l, nl, 0, .ref p1, rfl, rfl, SqL.of (j4.ge _ _ (hl_4)), at_nat (i := 0) hn0, ?_⟩
    have r5 := Hx.dta_app r41 (.cons q4 .nil)
    refine ⟨_, rfl, l, nl, 0, .ref p1, rfl, rfl, SqL.of (j4.ge _ _ (hl_4)), at_nat (i := 0) hn0, szl 3 (by omega), fun t5 ht5 => ?_⟩
    obtain ⟨j5, x5, y5⟩ := ga_tup j4 ht5 (xs := [.ref p1, .bl true, .bl true]) (ds := [n0D, .bool true, .bool true]) (.cons q4 (.cons (.bl _) (.cons (.bl _) .nil)))
    have q5 := ex_dt x5 _ _ q4
    have hl_5 := x5 _ _ hl_4
    have r50 := ex_dta x5 r5
    generalize upd J4 t5 (.tup [.ref p1, .bl true, .bl true]) = J5 at j5 x5 y5 q5 hl_5 r50
    generalize upd I4 t5 (.tup [.ref p1, .bl true, .bl true]) = I5 at j5
    have r51 := Hx.dta_app r50 (.cons y5 .nil)
    refine ⟨_, rfl, l, nl, 0, .ref p1, rfl, rfl, SqL.of (j5.ge _ _ (hl_5)), at_nat (i := 0) hn0, szl 2 (by omega), fun t6 ht6 => ?_⟩
    obtain ⟨j6, x6, y6⟩ := ga_tup j5 ht6 (xs := [.bl true, .ref p1]) (ds := [.bool true, n0D]) (.cons (.bl _) (.cons q5 .nil))
    have q6 := ex_dt x6 _ _ q5
    have hl_6 := x6 _ _ hl_5
    have r60 := ex_dta x6 r51
    generalize upd J5 t6 (.tup [.bl true, .ref p1]) = J6 at j6 x6 y6 q6 hl_6 r60
    generalize upd I5 t6 (.tup [.bl true, .ref p1]) = I6 at j6
    have r61 := Hx.dta_app r60 (.cons y6 .nil)
    refine ⟨szl 7 (by omega), fun t ht => ?_⟩
    have jz := j6.new ht (o := .tup [.ref t1, .ref t2, .ref t3, .ref t4, .ref p1, .ref t5, .ref t6])
    have xz : Ex J6 _ := j6.fr ht (o := .tup [.ref t1, .ref t2, .ref t3, .ref t4, .ref p1, .ref t5, .ref t6])
    have hz : upd J6 t (.tup [.ref t1, .ref t2, .ref t3, .ref t4, .ref p1, .ref t5, .ref t6]) t = some (.tup [.ref t1, .ref t2, .ref t3, .ref t4, .ref p1, .ref t5, .ref t6]) := upd_same
    have rz : DtAll (upd J6 t (.tup [.ref t1, .ref t2, .ref t3, .ref t4, .ref p1, .ref t5, .ref t6])) [.ref t1, .ref t2, .ref t3, .ref t4, .ref p1, .ref t5, .ref t6] near0D := ex_dta xz r61
    generalize upd J6 t (.tup [.ref t1, .ref t2, .ref t3, .ref t4, .ref p1, .ref t5, .ref t6]) = Jz at jz xz hz rz
    generalize upd I6 t (.tup [.ref t1, .ref t2, .ref t3, .ref t4, .ref p1, .ref t5, .ref t6]) = Iz at jz
    generalize hrl : ([.ref t1, .ref t2, .ref t3, .ref t4, .ref p1, .ref t5, .ref t6] : List V) = rl at hz rz
    have rlen : rl.length = 7 := by rw [← hrl]; rfl
    refine ⟨s, L, t, rl, rfl, jz.st, .inr (SqT.of (jz.ge _ _ hz)), j6.no ht, by omega, by omega, fun j x H5 hx kp5 st5 => ?_⟩
    obtain ⟨dj, h1, h2⟩ := dta_get rz hx
    have hb := List.all_eq_true.mp near0_bad dj (List.mem_of_getElem? h1)
    rw [Bool.and_eq_true, Bool.not_eq_true'] at hb
    exact q _ _ _ _ (jz.next kp5 st5) h2 hb.1 hb.2
  · have hk0 : k ≠ 0 := fun z => by subst z; exact h0 (by simp)
    have hx : nl[k]? = some (nl.getD k .non) := by rw [List.getD_eq_getElem?_getD, List.getElem?_eq_getElem (by omega)]; rfl
    obtain ⟨dk, h1, h2⟩ := dta_get acc hx
    have hg : nearD.getD k .none = dk := by rw [List.getD_eq_getElem?_getD, h1]; rfl
    have hb := (near_bad ⟨k, hk⟩).resolve_left hk0
    have hf := near_fit ⟨k, hk⟩
    dsimp only at hb hf
    rw [hg] at hb hf
    refine ⟨_, rfl, _, rfl, l, nl, (k : Int), _, rfl, rfl, SqL.of hd', at_nat hx, _, rfl, s, L, 2, rfl, st3, by decide, by decide, fun dd H4 _ _ kp4 st4 => ⟨rfl, szl 2 (by omega), fun t ht => ?_⟩⟩
    have g4 := gd.next kp4 st4
    refine q _ _ _ _ (g4.new ht) (.tup upd_same (.cons (ex_dt (g4.fr ht) _ _ h2) (.cons (.bl _) .nil))) (lit_not _ _ hb) ?_
    rw [fitB, fitBs, fitBs, fitBs, hf]; rfl
end
end K21
namespace K21
open PySem PySem.Spec PyProof.Rows L2 Hx Hd
open Evl (pss_cut tCut ex_l ex_t)
open M21
/-! ### what a method leaves alone -/
def Frm (l : List Addr) (H H2 : Hp) : Prop := ∀ b, b ∉ l → H b ≠ none → H2 b = H b
theorem Frm.refl (l : List Addr) (H : Hp) : Frm l H H := fun _ _ _ => rfl
theorem Frm.at {l : List Addr} {H H2 : Hp} (f : Frm l H H2) {b : Addr} {o : HO} (h : H b = some o) (n : b ∉ l) : H2 b = some o := (f b n (some_ne h)).trans h
theorem Frm.trans {l : List Addr} {H H1 H2 : Hp} (a : Frm l H H1) (b : Frm l H1 H2) : Frm l H H2 := fun x n h => (b x n (by rw [a x n h]; exact h)).trans (a x n h)
theorem Frm.wk {l l' : List Addr} {H H2 : Hp} (a : Frm l H H2) (s : ∀ b ∈ l, b ∈ l') : Frm l' H H2 := fun x n h => a x (fun m => n (s x m)) h
theorem Frm.ex {l : List Addr} {H H2 : Hp} (e : Ex H H2) : Frm l H H2 := fun b _ h => by
  cases z : H b with
  | none => exact absurd z h
  | some o => exact e _ _ z
theorem Frm.put {l : List Addr} {H : Hp} {p : Addr} {o : HO} (h : p ∈ l) : Frm l H (upd H p o) := fun b n _ => upd_ne fun z => n (z ▸ h)
theorem Frm.only {l : List Addr} {H H2 : Hp} {p : Addr} (on : Only H p H2) (h : p ∈ l) : Frm l H H2 := fun b n _ => on b fun z => n (z ▸ h)
theorem Frm.ts {l : List Addr} {H H2 : Hp} (f : Frm l H H2) (n : ∀ b ∈ l, ∀ xs, H b ≠ some (.tup xs)) : TpS H H2 := fun b xs h => f.at h fun m => n b m xs h
/-! ### dicts of places -/
abbrev nI (n : Nat) : Key := Sum.inl (n : Int)
theorem nI_inj {a b : Nat} (h : nI a = nI b) : a = b := by
  have := Sum.inl.inj h
  omega
def IK (H : Hp) (a : Addr) (is : List Nat) : Prop := ∃ kvs, H a = some (.dK kvs) ∧ kvs.map (·.1) = is.map nI ∧ is.Nodup
theorem keys_has {kvs : List (Key × V)} {is : List Nat} (h : kvs.map (·.1) = is.map nI) (n : Nat) : (valV kvs (nI n)).isSome = decide (n ∈ is) := by
  rw [← valV_any, Bool.eq_iff_iff, List.any_eq_true, decide_eq_true_iff]
  constructor
  · rintro ⟨p, hp, e⟩
    have m : p.1 ∈ is.map nI := by rw [← h]; exact List.mem_map.mpr ⟨p, hp, rfl⟩
    obtain ⟨j, hj, ej⟩ := List.mem_map.mp m
    rw [of_decide_eq_true e] at ej
    rw [← nI_inj ej]; exact hj
  · intro m
    have : nI n ∈ kvs.map (·.1) := by rw [h]; exact List.mem_map.mpr ⟨n, m, rfl⟩
    obtain ⟨p, hp, e⟩ := List.mem_map.mp this
    exact ⟨p, hp, decide_eq_true e⟩
theorem keys_drop {kvs : List (Key × V)} {is : List Nat} (h : kvs.map (·.1) = is.map nI) (n : Nat) : (dropK kvs (nI n)).map (·.1) = (is.filter fun j => decide (j ≠ n)).map nI := by
  unfold dropK
  induction kvs generalizing is with
  | nil => cases is with
    | nil => rfl
    | cons _ _ => cases h
  | cons p kvs ih => cases is with
    | nil => cases h
    | cons j is =>
      rw [List.map_cons, List.map_cons] at h
      injection h with h1 h2
      by_cases e : j = n
      · rw [List.filter_cons_of_neg (by simp [h1, e]), List.filter_cons_of_neg (by simp [e])]
        exact ih h2
      · rw [List.filter_cons_of_pos (by simp only [decide_eq_true_eq]; intro z; rw [h1] at z; exact e (nI_inj z)), List.filter_cons_of_pos (by simp [e]), List.map_cons, List.map_cons, ih h2, h1]
theorem keys_put {kvs : List (Key × V)} {is : List Nat} (h : kvs.map (·.1) = is.map nI) {n : Nat} (hn : n ∉ is) (v : V) : (putK kvs (nI n) v).map (·.1) = (is ++ [n]).map nI := by
  have hs := keys_has h n
  unfold putK
  rw [valV_any, hs, if_neg (by simp [hn]), List.map_append, h, List.map_append]
  rfl
theorem filt_id {is : List Nat} {n : Nat} (hn : n ∉ is) : (is.filter fun j => decide (j ≠ n)) = is := List.filter_eq_self.mpr fun j hj => decide_eq_true (by rintro rfl; exact hn hj)
/-- the places that are so: those of is but n, and n if c -/
def reS (is : List Nat) (n : Nat) (c : Bool) : List Nat := (is.filter fun j => decide (j ≠ n)) ++ (if c = true then [n] else [])
theorem reS_mem {is : List Nat} {n j : Nat} {c : Bool} : j ∈ reS is n c ↔ (j = n ∧ c = true) ∨ (j ≠ n ∧ j ∈ is) := by
  unfold reS
  rw [List.mem_append, List.mem_filter]
  by_cases h : c = true
  · rw [if_pos h]; simp [h]
    by_cases e : j = n <;> simp [e]
  · rw [if_neg h]; simp [h]
    by_cases e : j = n <;> simp [e]
section
variable {P : Program} {w : World} {K : PySem.W.Frag} {mg : Str → Option Value} {base : Heap}
def spSort (K : PySem.W.Frag) : Sp := fun vs H Q _ => ∃ (tr dx br go mt lf : Addr) (fs : List (Str × V)) (n : Nat) (ms ls : List Int) (bs gs : List Nat), vs = [.ref tr, .int n] ∧ H tr = some (.ins (He.ga K "Trail") dx fs) ∧
  fs.lookup ("broken" : Str) = some (.ref br) ∧ fs.lookup ("going" : Str) = some (.ref go) ∧ fs.lookup ("met" : Str) = some (.ref mt) ∧ fs.lookup ("left" : Str) = some (.ref lf) ∧ H mt = some (.lst (ms.map V.int)) ∧ H lf = some (.lst (ls.map V.int)) ∧ n < ms.length ∧ n < ls.length ∧
  IK H br bs ∧ IK H go gs ∧ br ≠ go ∧ bs.length < 100000 ∧ gs.length < 100000 ∧
  ∀ H2, Frm [br, go] H H2 → IK H2 br (reS bs n (decide (ms.getD n 0 = 0 ∧ ls.getD n 0 = 0))) → IK H2 go (reS gs n (decide (ms.getD n 0 = 0 ∧ ls.getD n 0 = 1))) → Q .non H2
abbrev NTrail_sort_in : List Str := ["self", "n"]
theorem scTrail_sort_in : FnScope NTrail_sort_in ["self", "n"] (defScope (inClass (top 27) 2)) := ⟨rfl, rfl, rfl, by decide +kernel, rfl, by decide +kernel, by decide +kernel⟩
theorem ok_sort (T : Txt K mg) : CalM P w K mg base CX0 1 "Trail" "sort_in" ["self", "n"] (spSort K) := by
  refine mkCalM T.k_Trail T.e_Trail_sort_in T.d_Trail_sort_in scTrail_sort_in (fun _ _ _ _ _ _ us hl => match us, hl with | [_, _], _ => rfl) (fun vs H Q E h => ?_) fun cdv A outer s H vs Q E hr h => ?_
  · obtain ⟨_, _, _, _, _, _, _, _, _, _, _, _, rfl, _⟩ := h; rfl
  obtain ⟨tr, dx, br, go, mt, lf, fs, n, ms, ls, bs, gs, rfl, h1, lb, lg, lm, ll, hm, hl, nm, nl, ⟨kb, hb, kbk, bnd⟩, ⟨kg, hg, kgk, gnd⟩, nbg, blen, glen, q⟩ := h
  refine ⟨_, (pss_cut (ps_expr (pe_dpop2 (pe_fl T.k_Trail T.a_Trail_broken (pv 0)) (pv 1) pe_non ⟨rfl, rfl, rfl, rfl⟩))
      (pss_cut (ps_expr (pe_dpop2 (pe_fl T.k_Trail T.a_Trail_going (pv 0)) (pv 1) pe_non ⟨rfl, rfl, rfl, rfl⟩))
      (pss_one (ps_if (PW.pt (pw_and (pt_cmpR op_eq (pe_ix (ixL (K := K)) (pe_fl T.k_Trail T.a_Trail_met (pv 0)) (pv 1) (fun _ _ => rfl)) pe_int (nomark _)) (pw_and1 (pt_cmpR op_eq (pe_ix (ixL (K := K)) (pe_fl T.k_Trail T.a_Trail_left (pv 0)) (pv 1) (fun _ _ => rfl)) pe_int (nomark _))))) (pss_one (ps_dput (hu_of hr) (pe_fl T.k_Trail T.a_Trail_broken (pv 0)) (pv 1) pe_bl rfl)) (pss_one (ps_if (PW.pt (pw_and (pt_cmpR op_eq (pe_ix (ixL (K := K)) (pe_fl T.k_Trail T.a_Trail_met (pv 0)) (pv 1) (fun _ _ => rfl)) pe_int (nomark _)) (pw_and1 (pt_cmpR op_eq (pe_ix (ixL (K := K)) (pe_fl T.k_Trail T.a_Trail_left (pv 0)) (pv 1) (fun _ _ => rfl)) pe_int (nomark _))))) (pss_one (ps_dput (hu_of hr) (pe_fl T.k_Trail T.a_Trail_going (pv 0)) (pv 1) pe_bl rfl)) pss_nil)))))), ?_⟩
  have ntb : tr ≠ br := ne_of h1 hb (fun z => nomatch z)
  have ntg : tr ≠ go := ne_of h1 hg (fun z => nomatch z)
  have nmb : mt ≠ br := ne_of hm hb (fun z => nomatch z)
  have nmg : mt ≠ go := ne_of hm hg (fun z => nomatch z)
  have nlb : lf ≠ br := ne_of hl hb (fun z => nomatch z)
  have nlg : lf ≠ go := ne_of hl hg (fun z => nomatch z)
  refine ⟨fun σ' H' => σ' = [some (.ref tr), some (.int n)] ∧ Frm [br, go] H H' ∧ H' go = some (.dK kg) ∧ IK H' br (bs.filter fun j => decide (j ≠ n)), ?_, ?_⟩
  · refine ⟨_, rfl, tr, dx, fs, _, rfl, h1, lb, br, rfl, .inl ⟨kb, .inl hb⟩, _, rfl, kb, nI n, hb, rfl, fun v hv => ?_, fun hv => ?_⟩
    · exact ⟨rfl, Frm.put (by simp), by rw [upd_ne (Ne.symm nbg)]; exact hg, _, upd_same, keys_drop kbk n, bnd.filter _⟩
    · have hn : n ∉ bs := fun z => by
        have := keys_has kbk n
        rw [hv, decide_eq_true z] at this
        cases this
      exact ⟨rfl, Frm.refl _ _, hg, kb, hb, by rw [filt_id hn]; exact kbk, bnd.filter _⟩
  rintro σ' H1 ⟨rfl, f1, hg1, ik1⟩
  have h11 := f1.at h1 (by simp [ntb, ntg])
  refine ⟨fun σ' H' => σ' = [some (.ref tr), some (.int n)] ∧ Frm [br, go] H H' ∧ IK H' br (bs.filter fun j => decide (j ≠ n)) ∧ IK H' go (gs.filter fun j => decide (j ≠ n)), ?_, ?_⟩
  · refine ⟨_, rfl, tr, dx, fs, _, rfl, h11, lg, go, rfl, .inl ⟨kg, .inl hg1⟩, _, rfl, kg, nI n, hg1, rfl, fun v hv => ?_, fun hv => ?_⟩
    · obtain ⟨kb1, hb1, k1, k2⟩ := ik1
      exact ⟨rfl, f1.trans (Frm.put (by simp)), ⟨kb1, by rw [upd_ne nbg]; exact hb1, k1, k2⟩, _, upd_same, keys_drop kgk n, gnd.filter _⟩
    · have hn : n ∉ gs := fun z => by
        have := keys_has kgk n
        rw [hv, decide_eq_true z] at this
        cases this
      exact ⟨rfl, f1, ik1, kg, hg1, by rw [filt_id hn]; exact kgk, gnd.filter _⟩
  rintro σ' H2 ⟨rfl, f2, ⟨kb2, hb2, kb2k, bnd2⟩, ⟨kg2, hg2, kg2k, gnd2⟩⟩
  have h12 := f2.at h1 (by simp [ntb, ntg])
  have hm2 := f2.at hm (by simp [nmb, nmg])
  have hl2 := f2.at hl (by simp [nlb, nlg])
  have gm : (ms.map V.int)[n]? = some (.int (ms.getD n 0)) := by rw [List.getElem?_map, List.getD_eq_getElem?_getD, List.getElem?_eq_getElem nm]; rfl
  have gl : (ls.map V.int)[n]? = some (.int (ls.getD n 0)) := by rw [List.getElem?_map, List.getD_eq_getElem?_getD, List.getElem?_eq_getElem nl]; rfl
  have bnn : n ∉ bs.filter fun j => decide (j ≠ n) := by simp
  have gnn : n ∉ gs.filter fun j => decide (j ≠ n) := by simp
  have bl2 := List.length_filter_le (fun j => decide (j ≠ n)) bs
  have gl2 := List.length_filter_le (fun j => decide (j ≠ n)) gs
  have kbl : kb2.length = (bs.filter fun j => decide (j ≠ n)).length := by have := congrArg List.length kb2k; simpa using this
  have kgl : kg2.length = (gs.filter fun j => decide (j ≠ n)).length := by have := congrArg List.length kg2k; simpa using this
  have eT : ∀ i j : Int, i = j → V.bl (decide (V.int i = V.int j)) = V.bl true := fun i j e => by rw [e]; simp
  have eF : ∀ i j : Int, i ≠ j → V.bl (decide (V.int i = V.int j)) = V.bl false := fun i j e => by simp [e]
  have un : ∀ (cb cg : Bool), cb = false → cg = false → IK H2 br (reS bs n cb) ∧ IK H2 go (reS gs n cg) := fun cb cg e1 e2 => by
    subst e1; subst e2
    unfold reS
    rw [if_neg (by decide), List.append_nil, List.append_nil]
    exact ⟨⟨kb2, hb2, kb2k, bnd2⟩, ⟨kg2, hg2, kg2k, gnd2⟩⟩
  by_cases cm : ms.getD n 0 = 0
  · refine ⟨_, rfl, tr, dx, fs, _, rfl, h12, lm, _, rfl, mt, _, _, _, rfl, rfl, SqL.of hm2, at_nat gm, rfl, true, eT _ _ cm, ?_⟩
    refine ite2 (fun _ => ?_) (fun z => absurd rfl z)
    by_cases cl : ls.getD n 0 = 0
    · refine ⟨_, rfl, tr, dx, fs, _, rfl, h12, ll, _, rfl, lf, _, _, _, rfl, rfl, SqL.of hl2, at_nat gl, rfl, true, eT _ _ cl, ?_⟩
      refine ite2 (fun _ => ?_) (fun z => absurd rfl z)
      refine ⟨_, rfl, tr, dx, fs, _, rfl, h12, lb, _, rfl, br, _, rfl, DPut.k (k := nI n) hb2 (Nat.lt_of_le_of_lt (show kb2.length ≤ 100000 by omega) (sz _ (by omega))), ?_⟩
      rw [decide_eq_true (show ms.getD n 0 = 0 ∧ ls.getD n 0 = 0 from ⟨cm, cl⟩), decide_eq_false (show ¬ (ms.getD n 0 = 0 ∧ ls.getD n 0 = 1) by omega)] at q
      refine q _ (f2.trans (Frm.put (by simp))) ⟨_, upd_same, keys_put kb2k bnn _, ?_⟩ ?_
      · unfold reS
        rw [if_pos rfl, List.nodup_append]
        exact ⟨bnd2, by simp, fun a ha b hb e => by rw [List.mem_singleton] at hb; rw [e, hb] at ha; exact bnn ha⟩
      · obtain ⟨kg3, k1, k2, k3⟩ := (un false false rfl rfl).2
        exact ⟨kg3, by rw [upd_ne (Ne.symm nbg)]; exact k1, k2, k3⟩
    · refine ⟨_, rfl, tr, dx, fs, _, rfl, h12, ll, _, rfl, lf, _, _, _, rfl, rfl, SqL.of hl2, at_nat gl, rfl, false, eF _ _ cl, ?_⟩
      refine ite2 (fun z => absurd z (by decide)) (fun _ => ?_)
      refine ⟨_, rfl, tr, dx, fs, _, rfl, h12, lm, _, rfl, mt, _, _, _, rfl, rfl, SqL.of hm2, at_nat gm, rfl, true, eT _ _ cm, ?_⟩
      refine ite2 (fun _ => ?_) (fun z => absurd rfl z)
      rw [decide_eq_false (show ¬ (ms.getD n 0 = 0 ∧ ls.getD n 0 = 0) by omega)] at q
      by_cases cl1 : ls.getD n 0 = 1
      · refine ⟨_, rfl, tr, dx, fs, _, rfl, h12, ll, _, rfl, lf, _, _, _, rfl, rfl, SqL.of hl2, at_nat gl, rfl, true, eT _ _ cl1, ?_⟩
        refine ite2 (fun _ => ?_) (fun z => absurd rfl z)
        refine ⟨_, rfl, tr, dx, fs, _, rfl, h12, lg, _, rfl, go, _, rfl, DPut.k (k := nI n) hg2 (Nat.lt_of_le_of_lt (show kg2.length ≤ 100000 by omega) (sz _ (by omega))), ?_⟩
        rw [decide_eq_true (show ms.getD n 0 = 0 ∧ ls.getD n 0 = 1 from ⟨cm, cl1⟩)] at q
        refine q _ (f2.trans (Frm.put (by simp))) ?_ ⟨_, upd_same, keys_put kg2k gnn _, ?_⟩
        · obtain ⟨kg3, k1, k2, k3⟩ := (un false false rfl rfl).1
          exact ⟨kg3, by rw [upd_ne nbg]; exact k1, k2, k3⟩
        · unfold reS
          rw [if_pos rfl, List.nodup_append]
          exact ⟨gnd2, by simp, fun a ha b hb e => by rw [List.mem_singleton] at hb; rw [e, hb] at ha; exact gnn ha⟩
      · refine ⟨_, rfl, tr, dx, fs, _, rfl, h12, ll, _, rfl, lf, _, _, _, rfl, rfl, SqL.of hl2, at_nat gl, rfl, false, eF _ _ cl1, ?_⟩
        refine ite2 (fun z => absurd z (by decide)) (fun _ => ?_)
        rw [decide_eq_false (show ¬ (ms.getD n 0 = 0 ∧ ls.getD n 0 = 1) by omega)] at q
        exact q _ f2 (un false false rfl rfl).1 (un false false rfl rfl).2
  · refine ⟨_, rfl, tr, dx, fs, _, rfl, h12, lm, _, rfl, mt, _, _, _, rfl, rfl, SqL.of hm2, at_nat gm, rfl, false, eF _ _ cm, ?_⟩
    refine ite2 (fun z => absurd z (by decide)) (fun _ => ?_)
    refine ite2 (fun z => absurd z (by decide)) (fun _ => ?_)
    refine ⟨_, rfl, tr, dx, fs, _, rfl, h12, lm, _, rfl, mt, _, _, _, rfl, rfl, SqL.of hm2, at_nat gm, rfl, false, eF _ _ cm, ?_⟩
    refine ite2 (fun z => absurd z (by decide)) (fun _ => ?_)
    refine ite2 (fun z => absurd z (by decide)) (fun _ => ?_)
    rw [decide_eq_false (show ¬ (ms.getD n 0 = 0 ∧ ls.getD n 0 = 0) by omega), decide_eq_false (show ¬ (ms.getD n 0 = 0 ∧ ls.getD n 0 = 1) by omega)] at q
    exact q _ f2 (un false false rfl rfl).1 (un false false rfl rfl).2
end
end K21
namespace K21
open PySem PySem.Spec PyProof.Rows L2 Hx Hd
open Evl (pss_cut tCut ex_l ex_t)
open M21
theorem nodup_lenG {α : Type} [DecidableEq α] {l : List α} : ∀ {L : List α}, l.Nodup → (∀ z ∈ l, z ∈ L) → l.length ≤ L.length := by
  induction l with
  | nil => intro L _ _; exact Nat.zero_le _
  | cons x l ih =>
    intro L nd h
    obtain ⟨h1, h2⟩ := List.nodup_cons.mp nd
    have hx := h x (List.mem_cons_self ..)
    have := ih (L := L.erase x) h2 fun z hz => (List.mem_erase_of_ne (by rintro rfl; exact h1 hz)).mpr (h z (List.mem_cons_of_mem _ hz))
    rw [List.length_erase_of_mem hx] at this
    have := List.length_pos_of_mem hx
    simp only [List.length_cons]
    omega
def BrI (ms ls : List Int) (bs gs : List Nat) : Prop := ms.length = ls.length ∧ (∀ n, n ∈ bs ↔ n < ms.length ∧ ms.getD n 0 = 0 ∧ ls.getD n 0 = 0) ∧ ∀ n, n ∈ gs ↔ n < ms.length ∧ ms.getD n 0 = 0 ∧ ls.getD n 0 = 1
theorem BrI.at {ms ls ms' ls' : List Int} {bs gs : List Nat} (h : BrI ms ls bs gs) {n : Nat} (hn : n < ms.length) (e1 : ms'.length = ms.length) (e2 : ls'.length = ls.length) (o : ∀ j, j ≠ n → ms'.getD j 0 = ms.getD j 0 ∧ ls'.getD j 0 = ls.getD j 0) :
    BrI ms' ls' (reS bs n (decide (ms'.getD n 0 = 0 ∧ ls'.getD n 0 = 0))) (reS gs n (decide (ms'.getD n 0 = 0 ∧ ls'.getD n 0 = 1))) := by
  obtain ⟨h1, h2, h3⟩ := h
  refine ⟨by omega, fun j => ?_, fun j => ?_⟩
  · rw [reS_mem, e1, decide_eq_true_iff]
    by_cases z : j = n
    · subst z; simp [hn]
    · simp only [z, false_and, false_or, ne_eq, not_false_eq_true, true_and]
      rw [h2 j, (o j z).1, (o j z).2]
  · rw [reS_mem, e1, decide_eq_true_iff]
    by_cases z : j = n
    · subst z; simp [hn]
    · simp only [z, false_and, false_or, ne_eq, not_false_eq_true, true_and]
      rw [h3 j, (o j z).1, (o j z).2]
theorem BrI.lenB {ms ls : List Int} {bs gs : List Nat} (h : BrI ms ls bs gs) (nd : bs.Nodup) : bs.length ≤ ms.length := by
  have := nodup_lenG (L := List.range ms.length) nd fun z hz => List.mem_range.mpr ((h.2.1 z).mp hz).1
  rwa [List.length_range] at this
theorem BrI.lenG {ms ls : List Int} {bs gs : List Nat} (h : BrI ms ls bs gs) (nd : gs.Nodup) : gs.length ≤ ms.length := by
  have := nodup_lenG (L := List.range ms.length) nd fun z hz => List.mem_range.mpr ((h.2.2 z).mp hz).1
  rwa [List.length_range] at this
theorem getD_set_ne {l : List Int} {n j : Nat} {x : Int} (h : j ≠ n) : (l.set n x).getD j 0 = l.getD j 0 := by
  rw [List.getD_eq_getElem?_getD, List.getElem?_set_ne (Ne.symm h), List.getD_eq_getElem?_getD]
theorem getD_set_eq {l : List Int} {n : Nat} {x : Int} (h : n < l.length) : (l.set n x).getD n 0 = x := by
  rw [List.getD_eq_getElem?_getD, List.getElem?_set_self h]; rfl
/-- d is added at each of ns -/
def addA (l : List Int) (ns : List Nat) (d : Int) : List Int := ns.foldl (fun l n => l.set n (l.getD n 0 + d)) l
theorem addA_len (d : Int) : ∀ (ns : List Nat) (l : List Int), (addA l ns d).length = l.length
  | [], l => rfl
  | n :: ns, l => by show (addA (l.set n _) ns d).length = _; rw [addA_len d ns, List.length_set]
theorem addA_take {l : List Int} {ns : List Nat} {d : Int} {i n : Nat} (h : ns[i]? = some n) : addA l (ns.take (i + 1)) d = (addA l (ns.take i) d).set n ((addA l (ns.take i) d).getD n 0 + d) := by
  unfold addA
  rw [List.take_succ, h]
  show List.foldl _ _ (ns.take i ++ [n]) = _
  rw [List.foldl_append]
  rfl
theorem ix_nat {n len : Nat} (h : n < len) : ixN len (n : Int) = some n := by
  unfold ixN
  rw [if_pos (by omega), if_pos (by omega)]
  simp
/-- the places kept under the key k -/
def HL (H : Hp) (kvh : List (NestedKey × V)) (no : List Addr) (k : NestedKey) (ns : List Nat) : Prop := (valV kvh k = none ∧ ns = []) ∨ ∃ b, valV kvh k = some (.ref b) ∧ H b = some (.lst (ns.map fun n : Nat => V.int (n : Int))) ∧ b ∉ no
section
variable {P : Program} {w : World} {K : PySem.W.Frag} {mg : Str → Option Value} {base : Heap}
def spTurn (P : Program) (w : World) (K : PySem.W.Frag) : Sp := fun vs H Q _ => ∃ (tr dx r ho br go mt lf : Addr) (fs : List (Str × V)) (x : V) (d : PyData) (b : Bool) (z : Int) (kvh : List (NestedKey × V)) (nsA nsB : List Nat) (ms ls : List Int) (bs gs : List Nat),
  vs = [.ref tr, .ref r, .int z] ∧ H tr = some (.ins (He.ga K "Trail") dx fs) ∧ fs.lookup ("holders" : Str) = some (.ref ho) ∧ fs.lookup ("broken" : Str) = some (.ref br) ∧ fs.lookup ("going" : Str) = some (.ref go) ∧ fs.lookup ("met" : Str) = some (.ref mt) ∧ fs.lookup ("left" : Str) = some (.ref lf) ∧ fs.lookup ("sort_in" : Str) = none ∧
  H r = some (.tup [x, .bl b]) ∧ Dt H x d ∧ atomD d = true ∧ DN P w H ho kvh ∧ HL H kvh [mt, lf] (nk (.tuple [d, .bool b])) nsA ∧ HL H kvh [mt, lf] (nk (.tuple [d, .bool (!b)])) nsB ∧
  H mt = some (.lst (ms.map V.int)) ∧ H lf = some (.lst (ls.map V.int)) ∧ mt ≠ lf ∧ IK H br bs ∧ IK H go gs ∧ br ≠ go ∧ BrI ms ls bs gs ∧ ms.length < 100000 ∧ (∀ n ∈ nsA, n < ms.length) ∧ (∀ n ∈ nsB, n < ms.length) ∧
  ∀ H2 bs' gs', Frm [br, go, mt, lf] H H2 → H2 mt = some (.lst ((addA ms nsA z).map V.int)) → H2 lf = some (.lst ((addA (addA ls nsA (-z)) nsB (-z)).map V.int)) → IK H2 br bs' → IK H2 go gs' → BrI (addA ms nsA z) (addA (addA ls nsA (-z)) nsB (-z)) bs' gs' → Q .non H2
abbrev NTrail_turn : List Str := ["self", "literal", "by", "n"]
theorem scTrail_turn : FnScope NTrail_turn ["self", "literal", "by"] (defScope (inClass (top 27) 3)) := ⟨rfl, rfl, rfl, by decide +kernel, rfl, by decide +kernel, by decide +kernel⟩
theorem ok_turn (T : Txt K mg) (C_denied : Cal P w K mg base CX0 1 "denied" ["literal"] spDen) (M_Trail_sort_in : CalM P w K mg base CX0 1 "Trail" "sort_in" ["self", "n"] (spSort K)) : CalM P w K mg base CX0 2 "Trail" "turn" ["self", "literal", "by"] (spTurn P w K) := by
  refine mkCalM T.k_Trail T.e_Trail_turn T.d_Trail_turn scTrail_turn (fun _ _ _ _ _ _ us hl => match us, hl with | [_, _, _], _ => rfl) (fun vs H Q E h => ?_) fun cdv A outer s H vs Q E hr h => ?_
  · obtain ⟨_, _, _, _, _, _, _, _, _, _, _, _, _, _, _, _, _, _, _, _, rfl, _⟩ := h; rfl
  obtain ⟨tr, dx, r, ho, br, go, mt, lf, fs, x, d, b, z, kvh, nsA, nsB, ms, ls, bs, gs, rfl, h1, lo, lb, lg, lm, ll, ls0_, hr1, hx, had, dn, hA, hB, hm, hl, nml, ib, ig, nbg, bi, mz, nA, nB, q⟩ := h
  refine ⟨_, (pss_cut (ps_for PassesOwn.never rfl (piL (K := K) (pe_nget2 (hu9 hr) (pe_fl T.k_Trail T.a_Trail_holders (pv 0)) (pv 1) (pe_lst pa_nil) ⟨rfl, rfl, rfl, rfl⟩)) (pg_name (i := 3) scTrail_turn.nd rfl (Or.inl rfl)) (pss_cons (ps_augS (pe_fl T.k_Trail T.a_Trail_met (pv 0)) (pv 3) (pgetL (K := K)) (pv 2) ip_add set_list)
      (pss_cons (ps_augS (pe_fl T.k_Trail T.a_Trail_left (pv 0)) (pv 3) (pgetL (K := K)) (pv 2) ip_sub set_list)
      (pss_one (ps_expr (pe_mth (E := E0) M_Trail_sort_in (pv 0) (hr.mono (by decide)) pass0 (pa_cons (pv 3) pa_nil)))))))
      (pss_one (ps_for PassesOwn.never rfl (piL (K := K) (pe_nget2 (hu9 hr) (pe_fl T.k_Trail T.a_Trail_holders (pv 0)) (pe_cal (E := E0) C_denied (hr.mono (by decide)) pass0 (pa_cons (pv 1) pa_nil)) (pe_lst pa_nil) ⟨rfl, rfl, rfl, rfl⟩)) (pg_name (i := 3) scTrail_turn.nd rfl (Or.inl rfl)) (pss_cons (ps_augS (pe_fl T.k_Trail T.a_Trail_left (pv 0)) (pv 3) (pgetL (K := K)) (pv 2) ip_sub set_list)
      (pss_one (ps_expr (pe_mth (E := E0) M_Trail_sort_in (pv 0) (hr.mono (by decide)) pass0 (pa_cons (pv 3) pa_nil)))))))), ?_⟩
  have dfr : ∀ p : Addr, H p = none → p ∉ [br, go, mt, lf] := fun p hp hm' => by
    obtain ⟨kb, hb, _⟩ := ib
    obtain ⟨kg, hg, _⟩ := ig
    simp only [List.mem_cons, List.not_mem_nil, or_false] at hm'
    rcases hm' with rfl | rfl | rfl | rfl
    · rw [hb] at hp; cases hp
    · rw [hg] at hp; cases hp
    · rw [hm] at hp; cases hp
    · rw [hl] at hp; cases hp
  have oF : ∀ b o, H b = some o → (∀ kvs, o ≠ .dK kvs) → (∀ xs, o ≠ .lst xs) → b ∉ [br, go, mt, lf] := fun b o hb n1 n2 hm' => by
    obtain ⟨kb, hb', _⟩ := ib
    obtain ⟨kg, hg', _⟩ := ig
    simp only [List.mem_cons, List.not_mem_nil, or_false] at hm'
    rcases hm' with rfl | rfl | rfl | rfl
    · rw [hb] at hb'; exact n1 _ (Option.some.inj hb')
    · rw [hb] at hg'; exact n1 _ (Option.some.inj hg')
    · rw [hb] at hm; exact n2 _ (Option.some.inj hm)
    · rw [hb] at hl; exact n2 _ (Option.some.inj hl)
  have ntr := oF tr _ h1 (fun _ z => nomatch z) (fun _ z => nomatch z)
  have nr := oF r _ hr1 (fun _ z => nomatch z) (fun _ z => nomatch z)
  obtain ⟨φ, hφ⟩ := dn.isx
  have nho := oF ho _ hφ (fun _ z => nomatch z) (fun _ z => nomatch z)
  have tpF : ∀ H2, Frm [br, go, mt, lf] H H2 → TpS H H2 := fun H2 f => fun b xs hb => f.at hb (oF b _ hb (fun _ z => nomatch z) (fun _ z => nomatch z))
  have dnF : ∀ H2, Frm [br, go, mt, lf] H H2 → DN P w H2 ho kvh := fun H2 f => dn.mv (f ho nho (some_ne hφ)) (tpF H2 f)
  have nbm : br ≠ mt := by
    obtain ⟨kb, hb', _⟩ := ib
    exact ne_of hb' hm (fun z => nomatch z)
  have nbl : br ≠ lf := by
    obtain ⟨kb, hb', _⟩ := ib
    exact ne_of hb' hl (fun z => nomatch z)
  have ngm : go ≠ mt := by
    obtain ⟨kb, hb', _⟩ := ig
    exact ne_of hb' hm (fun z => nomatch z)
  have ngl : go ≠ lf := by
    obtain ⟨kb, hb', _⟩ := ig
    exact ne_of hb' hl (fun z => nomatch z)
  have atom_k : ∀ c : Bool, litD (.tuple [d, .bool c]) = true := fun c => by simp [litD, isT, had]
  refine ⟨fun σ' H' => ∃ v bs' gs', σ' = [some (.ref tr), some (.ref r), some (.int z), v] ∧ Frm [br, go, mt, lf] H H' ∧ H' mt = some (.lst ((addA ms nsA z).map V.int)) ∧ H' lf = some (.lst ((addA ls nsA (-z)).map V.int)) ∧ IK H' br bs' ∧ IK H' go gs' ∧ BrI (addA ms nsA z) (addA ls nsA (-z)) bs' gs', ?_, ?_⟩
  · refine ⟨_, rfl, tr, dx, fs, _, rfl, h1, lo, ho, rfl, ⟨_, dn⟩, _, rfl, szl 0 (by omega), fun p hp => ?_⟩
    have e0 := Evl.Ex.new hp (o := .lst [])
    refine ⟨kvh, nk (.tuple [d, .bool b]), dn.ex e0, ky_lit (ex_dt e0 _ _ (.tup hr1 (.cons hx (.cons (.bl b) .nil)))) (atom_k b), ?_⟩
    obtain ⟨q0, hq0, hq1, hq2⟩ : ∃ q0, (valV kvh (nk (.tuple [d, .bool b]))).getD (.ref p) = .ref q0 ∧ (upd H p (.lst [])) q0 = some (.lst (nsA.map fun n : Nat => V.int (n : Int))) ∧ q0 ∉ [br, go, mt, lf] := by
      rcases hA with ⟨v1, v2⟩ | ⟨b', v1, v2, v3⟩
      · rw [v1, v2]
        exact ⟨p, rfl, upd_same, dfr p hp⟩
      · rw [v1]
        refine ⟨b', rfl, e0 _ _ v2, fun m => ?_⟩
        simp only [List.mem_cons, List.not_mem_nil, or_false] at m v3
        rcases m with rfl | rfl | m
        · obtain ⟨kb, hb', _⟩ := ib
          rw [hb'] at v2; cases v2
        · obtain ⟨kb, hb', _⟩ := ig
          rw [hb'] at v2; cases v2
        · exact v3 m
    rw [hq0]
    have f0 : Frm [br, go, mt, lf] H (upd H p (.lst [])) := Frm.ex e0
    generalize upd H p (.lst []) = H0 at e0 hq1 f0
    refine ⟨q0, rfl, ⟨_, SqL.of hq1⟩, ?_⟩
    refine for_it walk_list (fun i σ' H' => ∃ v bs' gs', σ' = [some (.ref tr), some (.ref r), some (.int z), v] ∧ Frm [br, go, mt, lf] H H' ∧ Frm [br, go, mt, lf] H0 H' ∧ H' mt = some (.lst ((addA ms (nsA.take i) z).map V.int)) ∧ H' lf = some (.lst ((addA ls (nsA.take i) (-z)).map V.int)) ∧ IK H' br bs' ∧ IK H' go gs' ∧ BrI (addA ms (nsA.take i) z) (addA ls (nsA.take i) (-z)) bs' gs')
      ⟨none, bs, gs, rfl, f0, Frm.refl _ _, e0 _ _ hm, e0 _ _ hl, (let ⟨k, a1, a2⟩ := ib; ⟨k, e0 _ _ a1, a2⟩), (let ⟨k, a1, a2⟩ := ig; ⟨k, e0 _ _ a1, a2⟩), bi⟩ (fun i σ' H' hi ⟨_, _, _, _, _, f, _⟩ => SqL.of (f.at hq1 hq2)) ?_ ?_
    · rintro i v σ' H' H2 hi ⟨v0, bs', gs', rfl, f, f', hm', hl', ib', ig', bi'⟩ ⟨rfl, hv⟩
      rw [List.getElem?_map] at hv
      obtain ⟨n, hn, rfl⟩ := Option.map_eq_some_iff.mp hv
      have hnA := nA n (List.mem_of_getElem? hn)
      have lm' : (addA ms (nsA.take i) z).length = ms.length := addA_len _ _ _
      have ll' : (addA ls (nsA.take i) (-z)).length = ls.length := addA_len _ _ _
      have lml : ms.length = ls.length := bi.1
      have tm := addA_take (l := ms) (d := z) hn
      have tl := addA_take (l := ls) (d := -z) hn
      generalize addA ms (nsA.take i) z = ms1 at hm' bi' lm' tm
      generalize addA ls (nsA.take i) (-z) = ls1 at hl' bi' ll' tl
      have gm : (ms1.map V.int)[n]? = some (.int (ms1.getD n 0)) := by rw [List.getElem?_map, List.getD_eq_getElem?_getD, List.getElem?_eq_getElem (by omega)]; rfl
      have gl : (ls1.map V.int)[n]? = some (.int (ls1.getD n 0)) := by rw [List.getElem?_map, List.getD_eq_getElem?_getD, List.getElem?_eq_getElem (by omega)]; rfl
      have h11 := f.at h1 ntr
      refine ⟨_, rfl, tr, dx, fs, _, rfl, h11, lm, _, rfl, mt, _, n, _, rfl, rfl, SqL.of hm', gm, _, rfl, _, _, rfl, rfl, mt, _, _, n, rfl, rfl, hm', ix_nat (by rw [List.length_map]; omega), ?_⟩
      have f2 := f.trans (Frm.put (l := [br, go, mt, lf]) (p := mt) (o := .lst ((ms1.map V.int).set n (.int (ms1.getD n 0 + z)))) (by simp))
      have f2' := f'.trans (Frm.put (l := [br, go, mt, lf]) (p := mt) (o := .lst ((ms1.map V.int).set n (.int (ms1.getD n 0 + z)))) (by simp))
      have hl2 : upd H2 mt (.lst ((ms1.map V.int).set n (.int (ms1.getD n 0 + z)))) lf = some (.lst (ls1.map V.int)) := by rw [upd_ne (Ne.symm nml)]; exact hl'
      have hm2 : upd H2 mt (.lst ((ms1.map V.int).set n (.int (ms1.getD n 0 + z)))) mt = some (.lst ((ms1.set n (ms1.getD n 0 + z)).map V.int)) := by rw [upd_same, List.map_set]
      have ib2 : IK (upd H2 mt (.lst ((ms1.map V.int).set n (.int (ms1.getD n 0 + z))))) br bs' := let ⟨k, a1, a2⟩ := ib'; ⟨k, by rw [upd_ne nbm]; exact a1, a2⟩
      have ig2 : IK (upd H2 mt (.lst ((ms1.map V.int).set n (.int (ms1.getD n 0 + z))))) go gs' := let ⟨k, a1, a2⟩ := ig'; ⟨k, by rw [upd_ne ngm]; exact a1, a2⟩
      generalize upd H2 mt (.lst ((ms1.map V.int).set n (.int (ms1.getD n 0 + z)))) = H3 at f2 f2' hl2 hm2 ib2 ig2
      have h13 := f2.at h1 ntr
      refine ⟨_, rfl, tr, dx, fs, _, rfl, h13, ll, _, rfl, lf, _, n, _, rfl, rfl, SqL.of hl2, gl, _, rfl, _, _, rfl, rfl, lf, _, _, n, rfl, rfl, hl2, ix_nat (by rw [List.length_map]; omega), ?_⟩
      have f3 := f2.trans (Frm.put (l := [br, go, mt, lf]) (p := lf) (o := .lst ((ls1.map V.int).set n (.int (ls1.getD n 0 - z)))) (by simp))
      have f3' := f2'.trans (Frm.put (l := [br, go, mt, lf]) (p := lf) (o := .lst ((ls1.map V.int).set n (.int (ls1.getD n 0 - z)))) (by simp))
      have hm3 : upd H3 lf (.lst ((ls1.map V.int).set n (.int (ls1.getD n 0 - z)))) mt = some (.lst ((ms1.set n (ms1.getD n 0 + z)).map V.int)) := by rw [upd_ne nml]; exact hm2
      have hl3 : upd H3 lf (.lst ((ls1.map V.int).set n (.int (ls1.getD n 0 - z)))) lf = some (.lst ((ls1.set n (ls1.getD n 0 + -z)).map V.int)) := by rw [upd_same, List.map_set, Int.sub_eq_add_neg]
      have ib3 : IK (upd H3 lf (.lst ((ls1.map V.int).set n (.int (ls1.getD n 0 - z))))) br bs' := let ⟨k, a1, a2⟩ := ib2; ⟨k, by rw [upd_ne nbl]; exact a1, a2⟩
      have ig3 : IK (upd H3 lf (.lst ((ls1.map V.int).set n (.int (ls1.getD n 0 - z))))) go gs' := let ⟨k, a1, a2⟩ := ig2; ⟨k, by rw [upd_ne ngl]; exact a1, a2⟩
      generalize upd H3 lf (.lst ((ls1.map V.int).set n (.int (ls1.getD n 0 - z)))) = H4 at f3 f3' hm3 hl3 ib3 ig3
      have bl := bi'.lenB ib3.choose_spec.2.2
      have gl2 := bi'.lenG ig3.choose_spec.2.2
      refine ⟨_, rfl, tr, dx, fs, rfl, f3.at h1 ntr, ls0_, _, rfl, ?_⟩
      refine ⟨tr, dx, br, go, mt, lf, fs, n, _, _, bs', gs', rfl, f3.at h1 ntr, lb, lg, lm, ll, hm3, hl3, by rw [List.length_set]; omega, by rw [List.length_set]; omega, ib3, ig3, nbg, by omega, by omega, fun H5 f5 i1 i2 => ?_⟩
      refine ⟨_, _, _, rfl, f3.trans (f5.wk (by simp)), f3'.trans (f5.wk (by simp)), ?_, ?_, i1, i2, ?_⟩
      · rw [tm]; exact f5.at hm3 (by simp [Ne.symm nbm, Ne.symm ngm])
      · rw [tl]; exact f5.at hl3 (by simp [Ne.symm nbl, Ne.symm ngl])
      · rw [tm, tl]
        exact bi'.at (by omega) (by rw [List.length_set]) (by rw [List.length_set]) fun j hj => ⟨getD_set_ne hj, getD_set_ne hj⟩
    · rintro σ' H' ⟨v0, bs', gs', rfl, f, f', hm', hl', ib', ig', bi'⟩
      rw [List.length_map, List.take_length] at hm' hl' bi'
      exact ⟨v0, bs', gs', rfl, f, hm', hl', ib', ig', bi'⟩
  rintro σ' H1 ⟨v1, bs1, gs1, rfl, f1, hm1, hl1, ib1, ig1, bi1⟩
  have dn1 := dnF _ f1
  refine ⟨_, rfl, tr, dx, fs, _, rfl, f1.at h1 ntr, lo, ho, rfl, ⟨_, dn1⟩, _, rfl, r, x, b, rfl, f1.at hr1 nr, fun p0 hp0 => ⟨szl 0 (by omega), fun p hp => ?_⟩⟩
  have ea := Evl.Ex.new hp0 (o := .tup [x, .bl (!b)])
  have eb := Evl.Ex.new hp (o := .lst [])
  have e0 := ea.trans eb
  have hx1 : Dt H1 x d := dt_ts (tpF _ f1) _ _ (atom_key had).1 hx
  refine ⟨kvh, nk (.tuple [d, .bool (!b)]), dn1.ex e0, ky_lit (.tup (eb _ _ upd_same) (.cons (ex_dt e0 _ _ hx1) (.cons (.bl _) .nil))) (atom_k _), ?_⟩
  have hp1 : H1 p = none := Evl.fresh_back ea hp
  have pF : p ∉ [br, go, mt, lf] := fun hm' => by
    obtain ⟨kb, hb, _⟩ := ib1
    obtain ⟨kg, hg, _⟩ := ig1
    simp only [List.mem_cons, List.not_mem_nil, or_false] at hm'
    rcases hm' with rfl | rfl | rfl | rfl
    · rw [hb] at hp1; cases hp1
    · rw [hg] at hp1; cases hp1
    · rw [hm1] at hp1; cases hp1
    · rw [hl1] at hp1; cases hp1
  obtain ⟨q0, hq0, hq1, hq2⟩ : ∃ q0, (valV kvh (nk (.tuple [d, .bool (!b)]))).getD (.ref p) = .ref q0 ∧ (upd (upd H1 p0 (.tup [x, .bl (!b)])) p (.lst [])) q0 = some (.lst (nsB.map fun n : Nat => V.int (n : Int))) ∧ q0 ∉ [br, go, mt, lf] := by
    rcases hB with ⟨v1, v2⟩ | ⟨b', v1, v2, v3⟩
    · rw [v1, v2]
      exact ⟨p, rfl, upd_same, pF⟩
    · rw [v1]
      have v4 : b' ∉ [br, go, mt, lf] := fun m => by
        simp only [List.mem_cons, List.not_mem_nil, or_false] at m v3
        rcases m with rfl | rfl | m
        · obtain ⟨kb, hb', _⟩ := ib
          rw [hb'] at v2; cases v2
        · obtain ⟨kb, hb', _⟩ := ig
          rw [hb'] at v2; cases v2
        · exact v3 m
      exact ⟨b', rfl, e0 _ _ (f1.at v2 v4), v4⟩
  rw [hq0]
  have f0 : Frm [br, go, mt, lf] H (upd (upd H1 p0 (.tup [x, .bl (!b)])) p (.lst [])) := f1.trans (Frm.ex e0)
  generalize upd (upd H1 p0 (.tup [x, .bl (!b)])) p (.lst []) = H0 at e0 hq1 f0
  clear ea eb
  have lmA : (addA ms nsA z).length = ms.length := addA_len _ _ _
  have llA : (addA ls nsA (-z)).length = ls.length := addA_len _ _ _
  generalize addA ms nsA z = ms1 at hm1 bi1 lmA q
  generalize addA ls nsA (-z) = ls0 at hl1 bi1 llA q
  refine ⟨q0, rfl, ⟨_, SqL.of hq1⟩, ?_⟩
  refine for_it walk_list (fun i σ' H' => ∃ v bs' gs', σ' = [some (.ref tr), some (.ref r), some (.int z), v] ∧ Frm [br, go, mt, lf] H H' ∧ Frm [br, go, mt, lf] H0 H' ∧ H' mt = some (.lst (ms1.map V.int)) ∧ H' lf = some (.lst ((addA ls0 (nsB.take i) (-z)).map V.int)) ∧ IK H' br bs' ∧ IK H' go gs' ∧ BrI ms1 (addA ls0 (nsB.take i) (-z)) bs' gs')
    ⟨v1, bs1, gs1, rfl, f0, Frm.refl _ _, e0 _ _ hm1, e0 _ _ hl1, (let ⟨k, a1, a2⟩ := ib1; ⟨k, e0 _ _ a1, a2⟩), (let ⟨k, a1, a2⟩ := ig1; ⟨k, e0 _ _ a1, a2⟩), bi1⟩ (fun i σ' H' hi ⟨_, _, _, _, _, f, _⟩ => SqL.of (f.at hq1 hq2)) ?_ ?_
  · rintro i v σ' H' H2 hi ⟨v0, bs', gs', rfl, f, f', hm', hl', ib', ig', bi'⟩ ⟨rfl, hv⟩
    rw [List.getElem?_map] at hv
    obtain ⟨n, hn, rfl⟩ := Option.map_eq_some_iff.mp hv
    have hnB := nB n (List.mem_of_getElem? hn)
    have ll' : (addA ls0 (nsB.take i) (-z)).length = ls0.length := addA_len _ _ _
    have lml : ms.length = ls.length := bi.1
    have tl := addA_take (l := ls0) (d := -z) hn
    generalize addA ls0 (nsB.take i) (-z) = ls1 at hl' bi' ll' tl
    have gl : (ls1.map V.int)[n]? = some (.int (ls1.getD n 0)) := by rw [List.getElem?_map, List.getD_eq_getElem?_getD, List.getElem?_eq_getElem (by omega)]; rfl
    refine ⟨_, rfl, tr, dx, fs, _, rfl, f.at h1 ntr, ll, _, rfl, lf, _, n, _, rfl, rfl, SqL.of hl', gl, _, rfl, _, _, rfl, rfl, lf, _, _, n, rfl, rfl, hl', ix_nat (by rw [List.length_map]; omega), ?_⟩
    have f3 := f.trans (Frm.put (l := [br, go, mt, lf]) (p := lf) (o := .lst ((ls1.map V.int).set n (.int (ls1.getD n 0 - z)))) (by simp))
    have f3' := f'.trans (Frm.put (l := [br, go, mt, lf]) (p := lf) (o := .lst ((ls1.map V.int).set n (.int (ls1.getD n 0 - z)))) (by simp))
    have hm3 : upd H2 lf (.lst ((ls1.map V.int).set n (.int (ls1.getD n 0 - z)))) mt = some (.lst (ms1.map V.int)) := by rw [upd_ne nml]; exact hm'
    have hl3 : upd H2 lf (.lst ((ls1.map V.int).set n (.int (ls1.getD n 0 - z)))) lf = some (.lst ((ls1.set n (ls1.getD n 0 + -z)).map V.int)) := by rw [upd_same, List.map_set, Int.sub_eq_add_neg]
    have ib3 : IK (upd H2 lf (.lst ((ls1.map V.int).set n (.int (ls1.getD n 0 - z))))) br bs' := let ⟨k, a1, a2⟩ := ib'; ⟨k, by rw [upd_ne nbl]; exact a1, a2⟩
    have ig3 : IK (upd H2 lf (.lst ((ls1.map V.int).set n (.int (ls1.getD n 0 - z))))) go gs' := let ⟨k, a1, a2⟩ := ig'; ⟨k, by rw [upd_ne ngl]; exact a1, a2⟩
    generalize upd H2 lf (.lst ((ls1.map V.int).set n (.int (ls1.getD n 0 - z)))) = H4 at f3 f3' hm3 hl3 ib3 ig3
    have bl := bi'.lenB ib3.choose_spec.2.2
    have gl2 := bi'.lenG ig3.choose_spec.2.2
    refine ⟨_, rfl, tr, dx, fs, rfl, f3.at h1 ntr, ls0_, _, rfl, ?_⟩
    refine ⟨tr, dx, br, go, mt, lf, fs, n, _, _, bs', gs', rfl, f3.at h1 ntr, lb, lg, lm, ll, hm3, hl3, by omega, by rw [List.length_set]; omega, ib3, ig3, nbg, by omega, by omega, fun H5 f5 i1 i2 => ?_⟩
    refine ⟨_, _, _, rfl, f3.trans (f5.wk (by simp)), f3'.trans (f5.wk (by simp)), ?_, ?_, i1, i2, ?_⟩
    · exact f5.at hm3 (by simp [Ne.symm nbm, Ne.symm ngm])
    · rw [tl]; exact f5.at hl3 (by simp [Ne.symm nbl, Ne.symm ngl])
    · rw [tl]
      exact bi'.at (by omega) rfl (by rw [List.length_set]) fun j hj => ⟨rfl, getD_set_ne hj⟩
  · rintro σ' H' ⟨v0, bs', gs', rfl, f, f', hm', hl', ib', ig', bi'⟩
    rw [List.length_map, List.take_length] at hl' bi'
    exact q H' bs' gs' f hm' hl' ib' ig' bi'
end
end K21
namespace K21
open PySem PySem.Spec PyProof.Rows L2 Hx Hd
open Evl (pss_cut tCut ex_l ex_t)
open M21
theorem addA_get (d : Int) : ∀ (ns : List Nat) (l : List Int), ns.Nodup → (∀ n ∈ ns, n < l.length) → ∀ j, (addA l ns d).getD j 0 = l.getD j 0 + (if j ∈ ns then d else 0)
  | [], l, _, _, j => by simp [addA]
  | n :: ns, l, nd, h, j => by
    obtain ⟨n1, n2⟩ := List.nodup_cons.mp nd
    show (addA (l.set n (l.getD n 0 + d)) ns d).getD j 0 = _
    rw [addA_get d ns _ n2 (fun m hm => by rw [List.length_set]; exact h m (List.mem_cons_of_mem _ hm)) j]
    by_cases e : j = n
    · subst e
      rw [getD_set_eq (h j (List.mem_cons_self ..)), if_neg n1, if_pos (List.mem_cons_self ..)]; omega
    · rw [getD_set_ne e]
      have : (j ∈ n :: ns) ↔ j ∈ ns := by rw [List.mem_cons]; exact ⟨fun z => z.resolve_left e, .inr⟩
      simp only [this]
theorem ext_getD {a b : List Int} (h : a.length = b.length) (g : ∀ j, j < a.length → a.getD j 0 = b.getD j 0) : a = b := by
  apply List.ext_getElem h
  intro i h1 h2
  have := g i h1
  rw [List.getD_eq_getElem?_getD, List.getD_eq_getElem?_getD, List.getElem?_eq_getElem h1, List.getElem?_eq_getElem h2] at this
  exact this
theorem asc_pair : ∀ {ds : List PyData}, ascD ds = true → ds.Pairwise fun a b => PySem.W.dataLt a b = true
  | [], _ => .nil
  | [x], _ => by simp
  | x :: y :: r, h => by
    rw [ascD, Bool.and_eq_true] at h
    have ih := asc_pair h.2
    refine List.pairwise_cons.mpr ⟨fun z hz => ?_, ih⟩
    rcases List.mem_cons.mp hz with rfl | hz
    · exact h.1
    · exact PyProof.Rows.lex_trans _ _ _ h.1 ((List.pairwise_cons.mp ih).1 z hz)
theorem row_lits {r : List PyData} (h : rowD (.tuple r) = true) : ∀ x ∈ r, litD x = true := by
  have h : (r.all litD && ascD r) = true := h
  rw [Bool.and_eq_true, List.all_eq_true] at h
  exact h.1
theorem row_nodup {r : List PyData} (h : rowD (.tuple r) = true) : (r.map nk).Nodup := by
  have hl := row_lits h
  have h : (r.all litD && ascD r) = true := h
  rw [Bool.and_eq_true] at h
  have hp := asc_pair h.2
  rw [List.Nodup, List.pairwise_map]
  refine List.Pairwise.imp_of_mem (fun {a b} ha hb hab e => ?_) hp
  have := nk_lit (hl a ha) (hl b hb) e
  subst this
  rw [PySem.W.dataLt_self] at hab
  cases hab
section
variable {rows : List (List PyData)} {S : List NestedKey}
abbrev mets (S : List NestedKey) (rows : List (List PyData)) : List Int := rows.map fun r => (metOf S r : Int)
abbrev lefts (S : List NestedKey) (rows : List (List PyData)) : List Int := rows.map fun r => (leftOf S r : Int)
theorem getD_mapI {f : List PyData → Int} {j : Nat} (h : j < rows.length) : (rows.map f).getD j 0 = f (rows.getD j []) := by
  rw [List.getD_eq_getElem?_getD, List.getElem?_map, List.getD_eq_getElem?_getD, List.getElem?_eq_getElem h]; rfl
theorem turn_met (rk : ∀ r ∈ rows, rowD (.tuple r) = true) {k : NestedKey} (hk : k ∉ S) : addA (mets S rows) (occ rows k) 1 = mets (S ++ [k]) rows := by
  refine ext_getD (by rw [addA_len, List.length_map, List.length_map]) fun j hj => ?_
  rw [addA_len, List.length_map] at hj
  rw [addA_get 1 _ _ (occ_nodup rows k) (fun n hn => by rw [List.length_map]; exact (occ_mem.mp hn).1) j, getD_mapI hj, getD_mapI hj]
  have hr := rk (rows.getD j []) (by rw [List.getD_eq_getElem?_getD, List.getElem?_eq_getElem hj]; exact List.getElem_mem hj)
  rw [met_snoc hk (row_nodup hr)]
  have : (j ∈ occ rows k) ↔ k ∈ (rows.getD j []).map nk := by rw [occ_mem]; exact ⟨fun z => z.2, fun z => ⟨hj, z⟩⟩
  simp only [this]
theorem turn_left (rk : ∀ r ∈ rows, rowD (.tuple r) = true) {l : PyData} (hl : litD l = true) (h1 : nk l ∉ S) (h2 : nk (negD l) ∉ S) : addA (addA (lefts S rows) (occ rows (nk l)) (-1)) (occ rows (nk (negD l))) (-1) = lefts (S ++ [nk l]) rows := by
  refine ext_getD (by rw [addA_len, addA_len, List.length_map, List.length_map]) fun j hj => ?_
  rw [addA_len, addA_len, List.length_map] at hj
  rw [addA_get (-1) _ _ (occ_nodup rows _) (fun n hn => by rw [addA_len, List.length_map]; exact (occ_mem.mp hn).1) j, addA_get (-1) _ _ (occ_nodup rows _) (fun n hn => by rw [List.length_map]; exact (occ_mem.mp hn).1) j, getD_mapI hj, getD_mapI hj]
  have hr := rk (rows.getD j []) (by rw [List.getD_eq_getElem?_getD, List.getElem?_eq_getElem hj]; exact List.getElem_mem hj)
  rw [left_snoc hl h1 h2 (row_lits hr) (row_nodup hr)]
  have e1 : (j ∈ occ rows (nk l)) ↔ nk l ∈ (rows.getD j []).map nk := by rw [occ_mem]; exact ⟨fun z => z.2, fun z => ⟨hj, z⟩⟩
  have e2 : (j ∈ occ rows (nk (negD l))) ↔ nk (negD l) ∈ (rows.getD j []).map nk := by rw [occ_mem]; exact ⟨fun z => z.2, fun z => ⟨hj, z⟩⟩
  simp only [e1, e2]
  split <;> split <;> omega
end
/-! ### a trail in the heap -/
structure Ad where
  tr : Addr
  dx : Addr
  r : Addr
  kn : Addr
  ats : Addr
  ho : Addr
  en : Addr
  hs : Addr
  mt : Addr
  lf : Addr
  br : Addr
  go : Addr
def flds (t : Ad) : List (Str × V) := [("rows", .ref t.r), ("known", .ref t.kn), ("atoms", .ref t.ats), ("holders", .ref t.ho), ("entries", .ref t.en), ("heights", .ref t.hs), ("height", .int 0), ("met", .ref t.mt), ("left", .ref t.lf), ("broken", .ref t.br), ("going", .ref t.go)]
theorem fl_rows (t : Ad) : (flds t).lookup ("rows" : Str) = some (.ref t.r) := by rfl
theorem fl_known (t : Ad) : (flds t).lookup ("known" : Str) = some (.ref t.kn) := by rfl
theorem fl_atoms (t : Ad) : (flds t).lookup ("atoms" : Str) = some (.ref t.ats) := by rfl
theorem fl_holders (t : Ad) : (flds t).lookup ("holders" : Str) = some (.ref t.ho) := by rfl
theorem fl_entries (t : Ad) : (flds t).lookup ("entries" : Str) = some (.ref t.en) := by rfl
theorem fl_heights (t : Ad) : (flds t).lookup ("heights" : Str) = some (.ref t.hs) := by rfl
theorem fl_met (t : Ad) : (flds t).lookup ("met" : Str) = some (.ref t.mt) := by rfl
theorem fl_left (t : Ad) : (flds t).lookup ("left" : Str) = some (.ref t.lf) := by rfl
theorem fl_broken (t : Ad) : (flds t).lookup ("broken" : Str) = some (.ref t.br) := by rfl
theorem fl_going (t : Ad) : (flds t).lookup ("going" : Str) = some (.ref t.go) := by rfl
theorem fl_height (t : Ad) : (flds t).lookup ("height" : Str) = some (.int 0) := by rfl
theorem no_enter (t : Ad) : (flds t).lookup ("enter" : Str) = none := by rfl
theorem no_sort_in (t : Ad) : (flds t).lookup ("sort_in" : Str) = none := by rfl
theorem no_turn (t : Ad) : (flds t).lookup ("turn" : Str) = none := by rfl
theorem no_stand (t : Ad) : (flds t).lookup ("stand" : Str) = none := by rfl
theorem no_is_open (t : Ad) : (flds t).lookup ("is_open" : Str) = none := by rfl
theorem no_spare (t : Ad) : (flds t).lookup ("spare" : Str) = none := by rfl
/-- why a literal stands -/
def whyV : Option Nat → V
  | none => .non
  | some n => .int ((n : Nat) : Int)
def Ent (H : Hp) (v : V) (e : PyData × Option Nat) : Prop := ∃ p a, v = .ref p ∧ H p = some (.tup [a, .int 0, whyV e.2]) ∧ Dt H a e.1 ∧ litD e.1 = true
theorem Ent.ts {H H' : Hp} (t : TpS H H') {v : V} {e : PyData × Option Nat} (h : Ent H v e) : Ent H' v e := by
  obtain ⟨p, a, h1, h2, h3, h4⟩ := h
  exact ⟨p, a, h1, t _ _ h2, dt_ts t _ _ (lit_key h4).1 h3, h4⟩
def lists (t : Ad) : List Addr := [t.r, t.en, t.mt, t.lf]
def own (t : Ad) : List Addr := [t.tr, t.r, t.kn, t.ats, t.ho, t.en, t.hs, t.mt, t.lf, t.br, t.go]
structure TO (P : Program) (w : World) (K : PySem.W.Frag) (G H : Hp) (t : Ad) (rows : List (List PyData)) (S : List PyData) (ents : List (PyData × Option Nat)) : Prop where
  ge : Ex G H
  gn : ∀ b ∈ own t, G b = none
  fi : H t.tr = some (.ins (He.ga K "Trail") t.dx (flds t))
  rr : ∃ rvs, H t.r = some (.lst rvs) ∧ DtAll H rvs (rows.map PyData.tuple)
  kn : ∃ kv, DN P w H t.kn kv ∧ kv.length ≤ rows.length
  ats : ∃ kv, DN P w H t.ats kv ∧ kv.length ≤ (rows.map List.length).sum
  ho : ∃ kv, DN P w H t.ho kv ∧ kv.length ≤ (rows.map List.length).sum ∧ (∀ k, HL H kv (lists t) k (occ rows k)) ∧ (∀ k k' b, valV kv k = some (.ref b) → valV kv k' = some (.ref b) → k = k') ∧ ∀ k b, valV kv k = some (.ref b) → G b = none
  en : ∃ evs, H t.en = some (.lst evs) ∧ Paired (Ent H) evs ents
  hs : ∃ kv, DN P w H t.hs kv ∧ kv.length ≤ S.length ∧ ∀ k, (valV kv k).isSome = true ↔ k ∈ S.map nk
  mt : H t.mt = some (.lst ((mets (S.map nk) rows).map V.int))
  lf : H t.lf = some (.lst ((lefts (S.map nk) rows).map V.int))
  br : ∃ bs gs, IK H t.br bs ∧ IK H t.go gs ∧ BrI (mets (S.map nk) rows) (lefts (S.map nk) rows) bs gs
  nl : (lists t).Nodup
  nb : t.br ≠ t.go
  nd : [t.kn, t.ats, t.ho, t.hs].Nodup
  rk : ∀ r ∈ rows, rowD (.tuple r) = true
  z1 : (rows.map List.length).sum ≤ 50000
  z2 : rows.length ≤ 50000
  z3 : ents.length ≤ 50000
  z4 : S.length ≤ 50000
theorem rows_key {rows : List (List PyData)} (h : ∀ r ∈ rows, rowD (.tuple r) = true) : keysD (rows.map PyData.tuple) = true := keysD_iff.mpr fun d hd => by
  obtain ⟨r, hr, rfl⟩ := List.mem_map.mp hd
  rw [keyD]
  exact keysD_iff.mpr fun x hx => (lit_key (row_lits (h r hr) x hx)).1
theorem dta_ts {H H' : Hp} (t : TpS H H') : ∀ {ds : List PyData} {vs : List V}, keysD ds = true → DtAll H vs ds → DtAll H' vs ds
  | [], _, _, h => by cases h; exact .nil
  | d :: ds, _, hk, h => by
    rw [keysD, Bool.and_eq_true] at hk
    cases h with
    | cons h1 h2 => exact .cons (dt_ts t d _ hk.1 h1) (dta_ts t hk.2 h2)
theorem TO.ex {P : Program} {w : World} {K : PySem.W.Frag} {G H H' : Hp} {t : Ad} {rows : List (List PyData)} {S : List PyData} {ents : List (PyData × Option Nat)} (h : TO P w K G H t rows S ents) (e : Ex H H') : TO P w K G H' t rows S ents where
  ge := h.ge.trans e
  gn := h.gn
  fi := e _ _ h.fi
  rr := let ⟨v, a, b⟩ := h.rr; ⟨v, e _ _ a, ex_dta e b⟩
  kn := let ⟨v, a, b⟩ := h.kn; ⟨v, a.ex e, b⟩
  ats := let ⟨v, a, b⟩ := h.ats; ⟨v, a.ex e, b⟩
  ho := let ⟨v, a, b, c, d⟩ := h.ho; ⟨v, a.ex e, b, fun k => (c k).elim .inl fun ⟨x, y1, y2, y3⟩ => .inr ⟨x, y1, e _ _ y2, y3⟩, d⟩
  en := let ⟨v, a, b⟩ := h.en; ⟨v, e _ _ a, Paired.mapP b fun _ _ z => z.ts (TpS.ex e)⟩
  hs := let ⟨v, a, b⟩ := h.hs; ⟨v, a.ex e, b⟩
  mt := e _ _ h.mt
  lf := e _ _ h.lf
  br := let ⟨b, g, ⟨k, a1, a2⟩, ⟨k', b1, b2⟩, c⟩ := h.br; ⟨b, g, ⟨k, e _ _ a1, a2⟩, ⟨k', e _ _ b1, b2⟩, c⟩
  nl := h.nl
  nb := h.nb
  nd := h.nd
  rk := h.rk
  z1 := h.z1
  z2 := h.z2
  z3 := h.z3
  z4 := h.z4
def ownS (t : Ad) : List Addr := [t.en, t.hs, t.br, t.go, t.mt, t.lf]
section
variable {P : Program} {w : World} {K : PySem.W.Frag} {G H H' : Hp} {t : Ad} {rows : List (List PyData)} {S : List PyData} {ents : List (PyData × Option Nat)}
theorem TO.out (h : TO P w K G H t rows S ents) {b : Addr} {o : HO} (hb : H b = some o) (n1 : ∀ k, o ≠ .dK k) (n2 : ∀ xs, o = .lst xs → b ∉ [t.en, t.mt, t.lf]) (n3 : ∀ φ, o = .ext φ → b ≠ t.hs) : b ∉ ownS t := by
  obtain ⟨evs, hev, _⟩ := h.en
  obtain ⟨ks, dhs, _⟩ := h.hs
  obtain ⟨bs, gs, ⟨kb, ib, _⟩, ⟨kg, ig, _⟩, _⟩ := h.br
  obtain ⟨φ, hφ⟩ := dhs.isx
  intro m
  simp only [ownS, List.mem_cons, List.not_mem_nil, or_false] at m
  rcases m with rfl | rfl | rfl | rfl | rfl | rfl
  · rw [hev] at hb; exact n2 _ (Option.some.inj hb).symm (by simp)
  · rw [hφ] at hb; exact n3 _ (Option.some.inj hb).symm rfl
  · rw [ib] at hb; exact n1 _ (Option.some.inj hb).symm
  · rw [ig] at hb; exact n1 _ (Option.some.inj hb).symm
  · rw [h.mt] at hb; exact n2 _ (Option.some.inj hb).symm (by simp)
  · rw [h.lf] at hb; exact n2 _ (Option.some.inj hb).symm (by simp)
theorem TO.tps (h : TO P w K G H t rows S ents) (f : Frm (ownS t) H H') : TpS H H' := fun b xs hb => f.at hb (h.out hb (fun _ z => nomatch z) (fun _ z => nomatch z) (fun _ z => nomatch z))
theorem _root_.Hx.DN.frm {kv : List (NestedKey × V)} {a : Addr} {l : List Addr} (x : DN P w H a kv) (f : Frm l H H') (n : a ∉ l) (tp : TpS H H') : DN P w H' a kv := by
  obtain ⟨φ, e⟩ := x.isx
  exact x.mv (f a n (some_ne e)) tp
theorem TO.ne (h : TO P w K G H t rows S ents) : (t.r ≠ t.en ∧ t.r ≠ t.mt ∧ t.r ≠ t.lf) ∧ (t.en ≠ t.mt ∧ t.en ≠ t.lf) ∧ t.mt ≠ t.lf := by
  have := h.nl
  simp only [lists, List.nodup_cons, List.mem_cons, List.not_mem_nil, or_false, not_or, not_false_eq_true, List.nodup_nil, and_true] at this
  exact this
theorem TO.ned (h : TO P w K G H t rows S ents) : (t.kn ≠ t.ats ∧ t.kn ≠ t.ho ∧ t.kn ≠ t.hs) ∧ (t.ats ≠ t.ho ∧ t.ats ≠ t.hs) ∧ t.ho ≠ t.hs := by
  have := h.nd
  simp only [List.nodup_cons, List.mem_cons, List.not_mem_nil, or_false, not_or, not_false_eq_true, List.nodup_nil, and_true] at this
  exact this
theorem TO.outD (h : TO P w K G H t rows S ents) {a : Addr} {kv : List (NestedKey × V)} (x : DN P w H a kv) (n : a ≠ t.hs) : a ∉ ownS t := by
  obtain ⟨φ, e⟩ := x.isx
  exact h.out e (fun _ z => nomatch z) (fun _ z => nomatch z) fun _ _ => n
/-- what stands, the counts and the entries are others; the rest is as it was -/
theorem TO.keep (h : TO P w K G H t rows S ents) (f : Frm (ownS t) H H') {S' : List PyData} {ents' : List (PyData × Option Nat)} (en : ∃ evs, H' t.en = some (.lst evs) ∧ Paired (Ent H') evs ents')
    (hs : ∃ kv, DN P w H' t.hs kv ∧ kv.length ≤ S'.length ∧ ∀ k, (valV kv k).isSome = true ↔ k ∈ S'.map nk) (mt : H' t.mt = some (.lst ((mets (S'.map nk) rows).map V.int))) (lf : H' t.lf = some (.lst ((lefts (S'.map nk) rows).map V.int)))
    (br : ∃ bs gs, IK H' t.br bs ∧ IK H' t.go gs ∧ BrI (mets (S'.map nk) rows) (lefts (S'.map nk) rows) bs gs) (z3 : ents'.length ≤ 50000) (z4 : S'.length ≤ 50000) : TO P w K G H' t rows S' ents' := by
  have tp := h.tps f
  obtain ⟨rvs, hrv, hrd⟩ := h.rr
  obtain ⟨kk, dkn, zk⟩ := h.kn
  obtain ⟨ka, dat, za⟩ := h.ats
  obtain ⟨kh, dho, zh, hol, hin⟩ := h.ho
  obtain ⟨⟨n1, n2, n3⟩, _, _⟩ := h.ne
  obtain ⟨⟨_, _, d1⟩, ⟨_, d2⟩, d3⟩ := h.ned
  exact {
    ge := fun b o hb => f.at (h.ge _ _ hb) fun m => by
      have := h.gn b (by simp only [ownS, own, List.mem_cons, List.not_mem_nil, or_false] at m ⊢; rcases m with m | m | m | m | m | m <;> simp [m])
      rw [hb] at this; cases this
    gn := h.gn
    fi := f.at h.fi (h.out h.fi (fun _ z => nomatch z) (fun _ z => nomatch z) (fun _ z => nomatch z))
    rr := ⟨rvs, f.at hrv (h.out hrv (fun _ z => nomatch z) (fun _ _ => by simp [n1, n2, n3]) (fun _ z => nomatch z)), dta_ts tp (rows_key h.rk) hrd⟩
    kn := ⟨kk, dkn.frm f (h.outD dkn d1) tp, zk⟩
    ats := ⟨ka, dat.frm f (h.outD dat d2) tp, za⟩
    ho := ⟨kh, dho.frm f (h.outD dho d3) tp, zh, fun k => (hol k).elim .inl fun ⟨x, y1, y2, y3⟩ => .inr ⟨x, y1, f.at y2 (h.out y2 (fun _ z => nomatch z) (fun _ _ => by simp only [lists, List.mem_cons, List.not_mem_nil, or_false, not_or] at y3; simp [y3.2.1, y3.2.2.1, y3.2.2.2]) (fun _ z => nomatch z)), y3⟩, hin⟩
    en := en
    hs := hs
    mt := mt
    lf := lf
    br := br
    nl := h.nl
    nb := h.nb
    nd := h.nd
    rk := h.rk
    z1 := h.z1
    z2 := h.z2
    z3 := z3
    z4 := z4 }
end
section
variable {P : Program} {w : World} {K : PySem.W.Frag} {mg : Str → Option Value} {base : Heap}
def spStand (P : Program) (w : World) (K : PySem.W.Frag) : Sp := fun vs H Q _ => ∃ (G : Hp) (t : Ad) (r : Addr) (x : V) (d : PyData) (b : Bool) (why : Option Nat) (rows : List (List PyData)) (S : List PyData) (ents : List (PyData × Option Nat)), vs = [.ref t.tr, .ref r, whyV why] ∧ TO P w K G H t rows S ents ∧ ents.length < 50000 ∧ S.length < 50000 ∧
  H r = some (.tup [x, .bl b]) ∧ Dt H x d ∧ atomD d = true ∧ nk (.tuple [d, .bool b]) ∉ S.map nk ∧ nk (.tuple [d, .bool (!b)]) ∉ S.map nk ∧
  ∀ H2, Frm (ownS t) H H2 → TO P w K G H2 t rows (S ++ [.tuple [d, .bool b]]) (ents ++ [(.tuple [d, .bool b], why)]) → Q .non H2
abbrev NTrail_stand : List Str := ["self", "literal", "why"]
theorem scTrail_stand : FnScope NTrail_stand ["self", "literal", "why"] (defScope (inClass (top 27) 4)) := ⟨rfl, rfl, rfl, by decide +kernel, rfl, by decide +kernel, by decide +kernel⟩
theorem ok_stand (T : Txt K mg) (M_Trail_turn : CalM P w K mg base CX0 2 "Trail" "turn" ["self", "literal", "by"] (spTurn P w K)) : CalM P w K mg base CX0 3 "Trail" "stand" ["self", "literal", "why"] (spStand P w K) := by
  refine mkCalM T.k_Trail T.e_Trail_stand T.d_Trail_stand scTrail_stand (fun _ _ _ _ _ _ us hl => match us, hl with | [_, _, _], _ => rfl) (fun vs H Q E h => ?_) fun cdv A outer s H vs Q E hr h => ?_
  · obtain ⟨_, _, _, _, _, _, _, _, _, _, rfl, _⟩ := h; rfl
  obtain ⟨G, t, r, x, d, b, why, rows, S, ents, rfl, to, ze, zs, hr1, hx, had, n1, n2, q⟩ := h
  refine ⟨_, (pss_cons (ps_expr (pe_bm PySem.F.plainAttrs_list PySem.F.slot_list_append PySem.F.type_list_append mt_append (pe_fl T.k_Trail T.a_Trail_entries (pv 0)) (pa_cons (pe_tup (pa_cons (pv 1) (pa_cons (pe_fl T.k_Trail T.a_Trail_height (pv 0)) (pa_cons (pv 2) pa_nil)))) pa_nil)))
      (pss_cons (ps_nput (hu9 hr) (pe_fl T.k_Trail T.a_Trail_heights (pv 0)) (pv 1) (pe_fl T.k_Trail T.a_Trail_height (pv 0)) rfl)
      (pss_one (ps_expr (pe_mth (E := E0) M_Trail_turn (pv 0) (hr.mono (by decide)) pass0 (pa_cons (pv 1) (pa_cons pe_int pa_nil))))))), ?_⟩
  obtain ⟨rvs, hrv, hrd⟩ := to.rr
  obtain ⟨kk, dkn, zk⟩ := to.kn
  obtain ⟨ka, dat, za⟩ := to.ats
  obtain ⟨kh, dho, zh, hol, hin⟩ := to.ho
  obtain ⟨evs, hev, pev⟩ := to.en
  obtain ⟨ks, dhs, zhs, hks⟩ := to.hs
  obtain ⟨bs, gs, ib, ig, bi⟩ := to.br
  have lb : litD (.tuple [d, .bool b]) = true := by simp [litD, isT, had]
  have ndl := to.nl
  have ndd := to.nd
  simp only [lists, List.nodup_cons, List.mem_cons, List.not_mem_nil, or_false, not_or, not_false_eq_true, List.nodup_nil, and_true] at ndl ndd
  obtain ⟨⟨nre, nrm, nrl⟩, ⟨nem, nel⟩, nml⟩ := ndl
  obtain ⟨⟨nka, nkh, nks⟩, ⟨nah, nas⟩, nhs⟩ := ndd
  have hevl := pev.length
  -- the entry
  refine ⟨_, rfl, t.tr, t.dx, _, _, rfl, to.fi, fl_entries t, .inl ⟨rfl, _, SqL.of hev⟩, _, rfl, _, rfl, t.tr, t.dx, _, _, rfl, to.fi, fl_height t, _, rfl, szl 3 (by omega), fun p hp => ?_⟩
  have e1 := Evl.Ex.new hp (o := .tup [.ref r, .int 0, whyV why])
  have to1 := to.ex e1
  have hr2 := e1 _ _ hr1
  have hx2 := ex_dt e1 _ _ hx
  have hp2 : upd H p (.tup [.ref r, .int 0, whyV why]) p = some (.tup [.ref r, .int 0, whyV why]) := upd_same
  have hev2 := e1 _ _ hev
  have pev2 : Paired (Ent (upd H p (.tup [.ref r, .int 0, whyV why]))) evs ents := Paired.mapP pev fun _ _ z => z.ts (TpS.ex e1)
  have f1 : Frm (ownS t) H (upd H p (.tup [.ref r, .int 0, whyV why])) := Frm.ex e1
  generalize upd H p (.tup [.ref r, .int 0, whyV why]) = H1 at e1 to1 hr2 hx2 hp2 hev2 pev2 f1
  refine ⟨t.en, evs, _, rfl, rfl, hev2, Nat.lt_of_le_of_lt (show evs.length ≤ 50000 by omega) (sz _ (by omega)), ?_⟩
  have f2 : Frm (ownS t) H1 (upd H1 t.en (.lst (evs ++ [.ref p]))) := Frm.put (by simp [ownS])
  have tp2 := to1.tps f2
  have hev3 : upd H1 t.en (.lst (evs ++ [.ref p])) t.en = some (.lst (evs ++ [.ref p])) := upd_same
  have hp3 := tp2 _ _ hp2
  have hr3 := tp2 _ _ hr2
  have hx3 := dt_ts tp2 _ _ (atom_key had).1 hx2
  have fi3 := f2.at to1.fi (to1.out to1.fi (fun _ z => nomatch z) (fun _ z => nomatch z) (fun _ z => nomatch z))
  have dhs1 : DN P w H1 t.hs ks := by
    obtain ⟨ks', a, b1, c⟩ := to1.hs
    exact dhs.ex e1
  have dhs3 : DN P w (upd H1 t.en (.lst (evs ++ [.ref p]))) t.hs ks := dhs1.mv (upd_ne (by
    obtain ⟨φ, hφ⟩ := dhs1.isx
    exact ne_of hφ hev2 (fun z => nomatch z))) tp2
  have hmt3 : upd H1 t.en (.lst (evs ++ [.ref p])) t.mt = _ := (upd_ne (Ne.symm nem)).trans to1.mt
  have hlf3 : upd H1 t.en (.lst (evs ++ [.ref p])) t.lf = _ := (upd_ne (Ne.symm nel)).trans to1.lf
  obtain ⟨bs1, gs1, ib1, ig1, bi1⟩ := to1.br
  have ib3 : IK (upd H1 t.en (.lst (evs ++ [.ref p]))) t.br bs1 := let ⟨k, a1, a2⟩ := ib1; ⟨k, by rw [upd_ne (ne_of a1 hev2 (fun z => nomatch z))]; exact a1, a2⟩
  have ig3 : IK (upd H1 t.en (.lst (evs ++ [.ref p]))) t.go gs1 := let ⟨k, a1, a2⟩ := ig1; ⟨k, by rw [upd_ne (ne_of a1 hev2 (fun z => nomatch z))]; exact a1, a2⟩
  obtain ⟨kh1, dho1, zh1, hol1, hin1⟩ := to1.ho
  have dho3 : DN P w (upd H1 t.en (.lst (evs ++ [.ref p]))) t.ho kh1 := dho1.frm f2 (to1.outD dho1 nhs) tp2
  have hol3 : ∀ k, HL (upd H1 t.en (.lst (evs ++ [.ref p]))) kh1 [t.mt, t.lf] k (occ rows k) := fun k => (hol1 k).elim .inl fun ⟨x, y1, y2, y3⟩ => by
    simp only [lists, List.mem_cons, List.not_mem_nil, or_false, not_or] at y3
    exact .inr ⟨x, y1, by rw [upd_ne y3.2.1]; exact y2, by simp [y3.2.2.1, y3.2.2.2]⟩
  have pev3 : Paired (Ent (upd H1 t.en (.lst (evs ++ [.ref p])))) (evs ++ [.ref p]) (ents ++ [(.tuple [d, .bool b], why)]) := Paired.snoc (Paired.mapP pev2 fun _ _ z => z.ts tp2) ⟨p, .ref r, rfl, hp3, .tup hr3 (.cons hx3 (.cons (.bl b) .nil)), lb⟩
  have f12 := f1.trans f2
  generalize upd H1 t.en (.lst (evs ++ [.ref p])) = H3 at f12 hev3 hp3 hr3 hx3 fi3 dhs3 hmt3 hlf3 ib3 ig3 dho3 hol3 pev3
  clear tp2 f2
  -- heights
  refine ⟨_, rfl, t.tr, t.dx, _, _, rfl, fi3, fl_height t, _, rfl, t.tr, t.dx, _, _, rfl, fi3, fl_heights t, _, rfl, t.hs, ks, nk (.tuple [d, .bool b]), rfl, dhs3, ky_lit (.tup hr3 (.cons hx3 (.cons (.bl b) .nil))) lb, Nat.lt_of_le_of_lt (show ks.length ≤ 50000 by omega) (sz _ (by omega)), fun H4 on d4 => ?_⟩
  have tp4 := dhs3.ts on
  have fi4 : H4 t.tr = _ := (on t.tr (dhs3.ne fi3 (fun _ z => nomatch z))).trans fi3
  have hr4 := tp4 _ _ hr3
  have hx4 := dt_ts tp4 _ _ (atom_key had).1 hx3
  have hmt4 : H4 t.mt = _ := (on t.mt (dhs3.ne hmt3 (fun _ z => nomatch z))).trans hmt3
  have hlf4 : H4 t.lf = _ := (on t.lf (dhs3.ne hlf3 (fun _ z => nomatch z))).trans hlf3
  have ib4 : IK H4 t.br bs1 := let ⟨k, a1, a2⟩ := ib3; ⟨k, (on _ (dhs3.ne a1 (fun _ z => nomatch z))).trans a1, a2⟩
  have ig4 : IK H4 t.go gs1 := let ⟨k, a1, a2⟩ := ig3; ⟨k, (on _ (dhs3.ne a1 (fun _ z => nomatch z))).trans a1, a2⟩
  have hev4 : H4 t.en = _ := (on t.en (dhs3.ne hev3 (fun _ z => nomatch z))).trans hev3
  have dho4 : DN P w H4 t.ho kh1 := dho3.mv (on t.ho nhs) tp4
  have hol4 : ∀ k, HL H4 kh1 [t.mt, t.lf] k (occ rows k) := fun k => (hol3 k).elim .inl fun ⟨x, y1, y2, y3⟩ => .inr ⟨x, y1, (on x (dhs3.ne y2 (fun _ z => nomatch z))).trans y2, y3⟩
  have pev4 : Paired (Ent H4) (evs ++ [.ref p]) (ents ++ [(.tuple [d, .bool b], why)]) := Paired.mapP pev3 fun _ _ z => z.ts tp4
  have f4 := f12.trans (Frm.only (l := ownS t) on (by simp [ownS]))
  -- turn
  have lz : ∀ k, ∀ n ∈ occ rows k, n < (mets (S.map nk) rows).length := fun k n hn => by rw [List.length_map]; exact (occ_mem.mp hn).1
  refine ⟨_, rfl, t.tr, t.dx, _, rfl, fi4, no_turn t, _, rfl, ?_⟩
  refine ⟨t.tr, t.dx, r, t.ho, t.br, t.go, t.mt, t.lf, flds t, x, d, b, 1, kh1, occ rows (nk (.tuple [d, .bool b])), occ rows (nk (.tuple [d, .bool (!b)])), _, _, bs1, gs1, rfl, fi4, fl_holders t, fl_broken t, fl_going t, fl_met t, fl_left t, no_sort_in t, hr4, hx4, had, dho4, hol4 _, hol4 _, hmt4, hlf4, nml, ib4, ig4, to.nb, bi1, by rw [List.length_map]; have := to.z2; omega, lz _, lz _, fun H5 bs5 gs5 f5 hm5 hl5 ib5 ig5 bi5 => ?_⟩
  have tm := turn_met (S := S.map nk) to.rk n1
  have tl := turn_left (S := S.map nk) to.rk lb n1 n2
  have eS : (S ++ [PyData.tuple [d, .bool b]]).map nk = S.map nk ++ [nk (PyData.tuple [d, .bool b])] := by simp
  have nx : negD (PyData.tuple [d, .bool b]) = PyData.tuple [d, .bool (!b)] := rfl
  rw [nx] at tl
  rw [tm] at hm5 bi5
  rw [tl] at hl5 bi5
  rw [← eS] at hm5 hl5 bi5
  have f5' : Frm (ownS t) H4 H5 := f5.wk (by simp [ownS])
  have f45 := f4.trans f5'
  have tp5 : TpS H4 H5 := f5.ts (fun c hc xs hx' => by
    obtain ⟨kb, ib', _⟩ := ib4
    obtain ⟨kg, ig', _⟩ := ig4
    simp only [List.mem_cons, List.not_mem_nil, or_false] at hc
    rcases hc with rfl | rfl | rfl | rfl
    · rw [ib'] at hx'; cases hx'
    · rw [ig'] at hx'; cases hx'
    · rw [hmt4] at hx'; cases hx'
    · rw [hlf4] at hx'; cases hx')
  have nF : ∀ c o, H4 c = some o → (∀ kvs, o ≠ .dK kvs) → (∀ xs, o = .lst xs → c ≠ t.mt ∧ c ≠ t.lf) → c ∉ [t.br, t.go, t.mt, t.lf] := fun c o hc m1 m2 hm' => by
    obtain ⟨kb, ib', _⟩ := ib4
    obtain ⟨kg, ig', _⟩ := ig4
    simp only [List.mem_cons, List.not_mem_nil, or_false] at hm'
    rcases hm' with rfl | rfl | rfl | rfl
    · rw [ib'] at hc; exact m1 _ (Option.some.inj hc).symm
    · rw [ig'] at hc; exact m1 _ (Option.some.inj hc).symm
    · rw [hmt4] at hc; exact (m2 _ (Option.some.inj hc).symm).1 rfl
    · rw [hlf4] at hc; exact (m2 _ (Option.some.inj hc).symm).2 rfl
  refine q H5 f45 (to.keep f45 ⟨_, f5.at hev4 (nF _ _ hev4 (fun _ z => nomatch z) (fun _ _ => ⟨nem, nel⟩)), Paired.mapP pev4 fun _ _ z => z.ts tp5⟩ ?_ hm5 hl5 ⟨bs5, gs5, ib5, ig5, bi5⟩ (by rw [List.length_append]; simp; omega) (by rw [List.length_append]; simp; omega))
  obtain ⟨φ, hφ⟩ := d4.isx
  refine ⟨_, d4.frm f5 (nF _ _ hφ (fun _ z => nomatch z) (fun _ z => nomatch z)) tp5, ?_, fun k => ?_⟩
  · have := length_putK ks (nk (.tuple [d, .bool b])) (.int 0)
    rw [List.length_append]; simp; omega
  · rw [valN_put, Bool.or_eq_true, decide_eq_true_iff, hks k, eS, List.mem_append]
    simp [or_comm]
end
end K21
namespace K21
open PySem PySem.Spec PyProof.Rows L2 Hx Hd
open Evl (pss_cut tCut ex_l ex_t)
open M21
theorem dtl {H : Hp} {r : Addr} {x : V} {d : PyData} {b : Bool} (h : H r = some (.tup [x, .bl b])) (g : Dt H x d) : Dt H (.ref r) (.tuple [d, .bool b]) := .tup h (.cons g (.cons (.bl b) .nil))
/-- a literal in the heap -/
theorem lit_at {H : Hp} {v : V} {d : PyData} (h : Dt H v d) (l : litD d = true) : ∃ r x a b, v = .ref r ∧ H r = some (.tup [x, .bl b]) ∧ Dt H x a ∧ atomD a = true ∧ d = .tuple [a, .bool b] := by
  obtain ⟨a, b, rfl, ha⟩ := lit_shape l
  obtain ⟨r, xs, rfl, h1, h2⟩ := dt_tup h
  cases h2 with
  | cons g1 h2 => cases h2 with
    | cons g2 h2 => cases h2; cases g2; exact ⟨r, _, a, b, rfl, h1, g1, ha, rfl⟩
theorem ky_row {H : Hp} {v : V} {r : List PyData} (h : Dt H v (.tuple r)) (hr : ∀ x ∈ r, litD x = true) : Ky H v (nk (.tuple r)) := by
  obtain ⟨a, xs, rfl, _, _⟩ := dt_tup h
  refine ⟨a, _, rfl, h, by rw [keyD]; exact keysD_iff.mpr fun x hx => (lit_key (hr x hx)).1, rfl, ?_⟩
  have gen : ∀ l : List PyData, (∀ x ∈ l, litD x = true) → NestedKey.depthAll (nks l) ≤ 2 := by
    intro l
    induction l with
    | nil => intro _; simp [nks, NestedKey.depthAll]
    | cons x l ih =>
      intro h
      have h1 := (lit_key (h x (List.mem_cons_self ..))).2.2
      have h2 := ih fun y hy => h y (List.mem_cons_of_mem _ hy)
      simp only [nks, NestedKey.depthAll]
      omega
  have := gen r hr
  simp only [nk, NestedKey.depth]
  omega
theorem row_at {P : Program} {w : World} {K : PySem.W.Frag} {G H : Hp} {t : Ad} {rows : List (List PyData)} {S : List PyData} {ents : List (PyData × Option Nat)} (to : TO P w K G H t rows S ents) {n : Nat} (hn : n < rows.length) :
    ∃ rvs v, H t.r = some (.lst rvs) ∧ rvs[n]? = some v ∧ Dt H v (.tuple (rows.getD n [])) := by
  obtain ⟨rvs, h1, h2⟩ := to.rr
  have hl := dta_len h2
  rw [List.length_map] at hl
  obtain ⟨v, hv, hd⟩ := dta_get' h2 (i := n) (d := .tuple (rows.getD n [])) (by rw [List.getElem?_map, List.getD_eq_getElem?_getD, List.getElem?_eq_getElem hn]; rfl)
  exact ⟨rvs, v, h1, hv, hd⟩
section
variable {P : Program} {w : World} {K : PySem.W.Frag} {mg : Str → Option Value} {base : Heap}
def spOpen (P : Program) (w : World) (K : PySem.W.Frag) : Sp := fun vs H Q _ => ∃ (G : Hp) (t : Ad) (v : V) (d : PyData) (rows : List (List PyData)) (S : List PyData) (ents : List (PyData × Option Nat)), vs = [.ref t.tr, v] ∧ TO P w K G H t rows S ents ∧ Dt H v d ∧ litD d = true ∧ ∀ H2, Ex H H2 → Q (.bl (openB (S.map nk) d)) H2
abbrev NTrail_is_open : List Str := ["self", "literal"]
theorem scTrail_is_open : FnScope NTrail_is_open ["self", "literal"] (defScope (inClass (top 27) 7)) := ⟨rfl, rfl, rfl, by decide +kernel, rfl, by decide +kernel, by decide +kernel⟩
theorem ok_open (T : Txt K mg) (C_denied : Cal P w K mg base CX0 1 "denied" ["literal"] spDen) : CalM P w K mg base CX0 2 "Trail" "is_open" ["self", "literal"] (spOpen P w K) := by
  refine mkCalM T.k_Trail T.e_Trail_is_open T.d_Trail_is_open scTrail_is_open (fun _ _ _ _ _ _ us hl => match us, hl with | [_, _], _ => rfl) (fun vs H Q E h => ?_) fun cdv A outer s H vs Q E hr h => ?_
  · obtain ⟨_, _, _, _, _, _, _, rfl, _⟩ := h; rfl
  obtain ⟨G, t, v, d, rows, S, ents, rfl, to, hd, hl, q⟩ := h
  refine ⟨_, (pss_one (ps_ret (pe_and (pe_cmpR (op_notInN (hu9 hr)) (pv 1) (pe_fl T.k_Trail T.a_Trail_heights (pv 0)) (by rfl)) (pe_one (pe_cmpR (op_notInN (hu9 hr)) (pe_cal (E := E0) C_denied (hr.mono (by decide)) pass0 (pa_cons (pv 1) pa_nil)) (pe_fl T.k_Trail T.a_Trail_heights (pv 0)) (by rfl)))))), ?_⟩
  obtain ⟨r, x, a, b, rfl, hr1, hx, had, rfl⟩ := lit_at hd hl
  obtain ⟨ks, dhs, zhs, hks⟩ := to.hs
  have nx : negD (PyData.tuple [a, .bool b]) = PyData.tuple [a, .bool (!b)] := rfl
  have bo : ∀ k, (!(valV ks k).isSome) = decide (k ∉ S.map nk) := fun k => by
    rw [Bool.eq_iff_iff, decide_eq_true_iff, ← hks k]; simp
  refine ⟨_, rfl, _, rfl, t.tr, t.dx, _, _, rfl, to.fi, fl_heights t, t.hs, ks, _, rfl, dhs, ky_lit hd hl, _, rfl, ?_⟩
  rw [bo]
  refine ite2 (fun h1 => ?_) (fun h1 => ?_)
  · have h1 := of_decide_eq_true h1
    refine ⟨_, rfl, r, x, b, rfl, hr1, fun p hp => ?_⟩
    have e1 := Evl.Ex.new hp (o := .tup [x, .bl (!b)])
    have to1 := to.ex e1
    refine ⟨_, rfl, t.tr, t.dx, _, _, rfl, to1.fi, fl_heights t, t.hs, ks, _, rfl, dhs.ex e1, ky_lit (dtl upd_same (ex_dt e1 _ _ hx)) (by simp [litD, isT, had]), ?_⟩
    rw [bo]
    have e2 : openB (S.map nk) (PyData.tuple [a, .bool b]) = decide (nk (PyData.tuple [a, .bool (!b)]) ∉ S.map nk) := by
      unfold openB
      rw [nx]
      simp [h1]
    rw [e2] at q
    exact q _ e1
  · have e2 : openB (S.map nk) (PyData.tuple [a, .bool b]) = false := by
      unfold openB
      exact decide_eq_false fun z => h1 (decide_eq_true z.1)
    rw [e2] at q
    exact q _ (Evl.Ex.refl _)
def spSpare (P : Program) (w : World) (K : PySem.W.Frag) : Sp := fun vs H Q _ => ∃ (G : Hp) (t : Ad) (n : Nat) (rows : List (List PyData)) (S : List PyData) (ents : List (PyData × Option Nat)), vs = [.ref t.tr, .int n] ∧ TO P w K G H t rows S ents ∧ n < rows.length ∧ 1 ≤ leftOf (S.map nk) (rows.getD n []) ∧
  ∀ v l r H2, Ex H H2 → Dt H2 v l → (rows.getD n []).filter (openB (S.map nk)) = l :: r → Q v H2
abbrev NTrail_spare : List Str := ["self", "n", "literal"]
theorem scTrail_spare : FnScope NTrail_spare ["self", "n"] (defScope (inClass (top 27) 8)) := ⟨rfl, rfl, rfl, by decide +kernel, rfl, by decide +kernel, by decide +kernel⟩
theorem ok_spare (T : Txt K mg) (M_Trail_is_open : CalM P w K mg base CX0 2 "Trail" "is_open" ["self", "literal"] (spOpen P w K)) : CalM P w K mg base CX0 3 "Trail" "spare" ["self", "n"] (spSpare P w K) := by
  refine mkCalM T.k_Trail T.e_Trail_spare T.d_Trail_spare scTrail_spare (fun _ _ _ _ _ _ us hl => match us, hl with | [_, _], _ => rfl) (fun vs H Q E h => ?_) fun cdv A outer s H vs Q E hr h => ?_
  · obtain ⟨_, _, _, _, _, _, rfl, _⟩ := h; rfl
  obtain ⟨G, t, n, rows, S, ents, rfl, to, hn, hlf, q⟩ := h
  refine ⟨_, (pss_one (ps_ret (pe_ix (ixL (K := K)) (pe_lc (own := [("literal", 2)]) (g := gName 2) rfl scTrail_spare.nd (piT (K := K) (pe_ix (ixL (K := K)) (pe_fl T.k_Trail T.a_Trail_rows (pv 0)) (pv 1) (fun _ _ => rfl))) (blkOk_by (N := NTrail_spare) (sc := defScope (inClass (top 27) 8)) (by decide +kernel)) (fun _ _ _ _ _ => (pg_name (i := 2) scTrail_spare.nd rfl (Or.inl rfl))) (fun _ _ _ _ _ => pts_one (pt_val (pe_mth (E := E0) M_Trail_is_open (pv 0) (hr.mono (by decide)) pass0 (pa_cons (pv 2) pa_nil)))) (fun _ _ _ _ _ => (pv 2))) pe_int (fun _ _ => rfl)))), ?_⟩
  obtain ⟨rvs, v, hrv, hv, hd⟩ := row_at to hn
  have hrk : rowD (.tuple (rows.getD n [])) = true := to.rk _ (by rw [List.getD_eq_getElem?_getD, List.getElem?_eq_getElem hn]; exact List.getElem_mem hn)
  have hlit := row_lits hrk
  have zl : (rows.getD n []).length ≤ 50000 := by
    have h1 := to.z1
    have h2 : (rows.getD n []).length ≤ (rows.map List.length).sum := by
      have : rows.getD n [] ∈ rows := by rw [List.getD_eq_getElem?_getD, List.getElem?_eq_getElem hn]; exact List.getElem_mem hn
      clear q hv hd hrk hlit hlf h1 hn to
      generalize rows.getD n [] = r at this
      induction rows with
      | nil => cases this
      | cons x rows ih =>
        rw [List.map_cons, List.sum_cons]
        rcases List.mem_cons.mp this with rfl | h
        · omega
        · have := ih h; omega
    omega
  generalize rows.getD n [] = row at hd hrk hlit hlf q zl
  obtain ⟨a, xs, rfl, hs, ha⟩ := dt_tup hd
  have hl := dta_len ha
  refine ⟨_, rfl, t.tr, t.dx, _, _, rfl, to.fi, fl_rows t, _, rfl, t.r, _, _, _, rfl, rfl, SqL.of hrv, at_nat hv, a, rfl, ⟨xs, SqT.of hs⟩, fun D hD => ?_⟩
  refine lcF (K := K) walk_tup (fun H' e => SqT.of (e _ _ hs)) (by omega) (fun i => openB (S.map nk) (row.getD i .none)) (fun i => xs.getD i .non) (fun i => [some (.ref t.tr), some (.int n), some (xs.getD i .non)])
    (fun i u G' H' H'' hi a' yy Q q => turn_name (σ0 := [some (.ref t.tr), some (.int n), none]) (j := 2) a' yy (by rw [List.getD_eq_getElem?_getD]; simp [hi]) q) (fun _ _ => rfl) (fun i H' hi e Q q => ?_) (fun i H' hi _ e Q q => ⟨_, rfl, q H' (Evl.Ex.refl _)⟩) hD (fun H' e hq hq2 => ?_)
  · have hx : xs[i]? = some (xs.getD i .non) := by rw [List.getD_eq_getElem?_getD, List.getElem?_eq_getElem hi]; rfl
    obtain ⟨di, hdi, hti⟩ := dta_get ha hx
    have hg : row.getD i .none = di := by rw [List.getD_eq_getElem?_getD, hdi]; rfl
    rw [hg] at q
    exact ⟨_, rfl, t.tr, t.dx, _, rfl, (to.ex e).fi, no_is_open t, _, rfl, G, t, _, di, rows, S, ents, rfl, to.ex e, ex_dt e _ _ hti, hlit di (List.mem_of_getElem? hdi), fun H2 e2 => ⟨_, rfl, q H2 e2⟩⟩
  · have hf : row.filter (openB (S.map nk)) = ((List.range row.length).filter fun i => openB (S.map nk) (row.getD i .none)).map fun i => row.getD i .none := by
      conv => lhs; rw [← show (List.range row.length).map (fun i => row.getD i .none) = row by have := range_map row .none (fun x => x); rw [List.map_id'] at this; exact this, List.filter_map]
      rfl
    have hle : (row.filter (openB (S.map nk))).length = leftOf (S.map nk) row := rfl
    rw [← hl] at hf
    cases hF : (List.range xs.length).filter fun i => openB (S.map nk) (row.getD i .none) with
    | nil => rw [hF] at hf; rw [hf] at hle; simp at hle; omega
    | cons i0 is =>
      rw [hF] at hf hq
      have hi0 : i0 < xs.length := by
        have : i0 ∈ (List.range xs.length).filter fun i => openB (S.map nk) (row.getD i .none) := by rw [hF]; exact List.mem_cons_self ..
        exact List.mem_range.mp (List.mem_filter.mp this).1
      have hx : xs[i0]? = some (xs.getD i0 .non) := by rw [List.getD_eq_getElem?_getD, List.getElem?_eq_getElem hi0]; rfl
      obtain ⟨di, hdi, hti⟩ := dta_get ha hx
      have hg : row.getD i0 .none = di := by rw [List.getD_eq_getElem?_getD, hdi]; rfl
      rw [List.map_cons] at hf hq
      rw [hg] at hf
      exact ⟨D, _, 0, _, rfl, rfl, hq, at_nat (i := 0) rfl, q _ di _ H' e (ex_dt e _ _ hti) hf⟩
end
end K21
namespace K21
open PySem PySem.Spec PyProof.Rows L2 Hx Hd
open Evl (pss_cut tCut ex_l ex_t)
open M21
/-- H' keeps what H has, but at a -/
def But (a : Addr) (H H' : Hp) : Prop := ∀ c o, c ≠ a → H c = some o → H' c = some o
theorem But.only {a : Addr} {H H' : Hp} (on : Only H a H') : But a H H' := fun c o n h => (on c n).trans h
theorem But.put {a : Addr} {H : Hp} {o : HO} : But a H (upd H a o) := fun c u n h => by rw [upd_ne n]; exact h
theorem But.ex {a : Addr} {H H' : Hp} (e : Ex H H') : But a H H' := fun c o _ h => e c o h
theorem But.ts {a : Addr} {H H' : Hp} (b : But a H H') (n : ∀ xs, H a ≠ some (.tup xs)) : TpS H H' := fun c xs h => b c _ (fun z => n xs (z ▸ h)) h
theorem _root_.Hx.DN.but {P : Program} {w : World} {a x : Addr} {H H' : Hp} {kv : List (NestedKey × V)} (d : DN P w H x kv) (b : But a H H') (n : x ≠ a) (tp : TpS H H') : DN P w H' x kv := by
  obtain ⟨φ, e⟩ := d.isx
  exact d.mv ((b x _ n e).trans e.symm) tp
theorem IK.but {a x : Addr} {H H' : Hp} {is : List Nat} (d : IK H x is) (b : But a H H') (n : x ≠ a) : IK H' x is := by
  obtain ⟨k, h1, h2⟩ := d
  exact ⟨k, b x _ n h1, h2⟩
/-- what stands still while a row is entered -/
structure EB (P : Program) (w : World) (K : PySem.W.Frag) (G H : Hp) (t : Ad) (rvs : List V) (ds : List PyData) (kk ks : List (NestedKey × V)) (evs : List V) (ents : List (PyData × Option Nat)) (ms ls : List Int) (bs gs : List Nat) : Prop where
  ge : Ex G H
  fi : H t.tr = some (.ins (He.ga K "Trail") t.dx (flds t))
  rr : H t.r = some (.lst rvs)
  rd : DtAll H rvs ds
  kn : DN P w H t.kn kk
  hs : DN P w H t.hs ks
  en : H t.en = some (.lst evs)
  ev : Paired (Ent H) evs ents
  mt : H t.mt = some (.lst (ms.map V.int))
  lf : H t.lf = some (.lst (ls.map V.int))
  br : IK H t.br bs
  go : IK H t.go gs
theorem EB.but {P : Program} {w : World} {K : PySem.W.Frag} {G H H' : Hp} {t : Ad} {rvs : List V} {ds : List PyData} {kk ks : List (NestedKey × V)} {evs : List V} {ents : List (PyData × Option Nat)} {ms ls : List Int} {bs gs : List Nat} {a : Addr}
    (h : EB P w K G H t rvs ds kk ks evs ents ms ls bs gs) (b : But a H H') (n : a ∉ [t.tr, t.r, t.kn, t.hs, t.en, t.mt, t.lf, t.br, t.go]) (ga : G a = none) (tp : TpS H H') (kd : keysD ds = true) : EB P w K G H' t rvs ds kk ks evs ents ms ls bs gs := by
  simp only [List.mem_cons, List.not_mem_nil, or_false, not_or] at n
  obtain ⟨n1, n2, n3, n4, n5, n6, n7, n8, n9⟩ := n
  exact {
    ge := fun c o hc => b c o (fun z => by rw [z, ga] at hc; cases hc) (h.ge _ _ hc)
    fi := b _ _ (Ne.symm n1) h.fi
    rr := b _ _ (Ne.symm n2) h.rr
    rd := dta_ts tp kd h.rd
    kn := h.kn.but b (Ne.symm n3) tp
    hs := h.hs.but b (Ne.symm n4) tp
    en := b _ _ (Ne.symm n5) h.en
    ev := Paired.mapP h.ev fun _ _ z => z.ts tp
    mt := b _ _ (Ne.symm n6) h.mt
    lf := b _ _ (Ne.symm n7) h.lf
    br := h.br.but b (Ne.symm n8)
    go := h.go.but b (Ne.symm n9) }
theorem EB.ex {P : Program} {w : World} {K : PySem.W.Frag} {G H H' : Hp} {t : Ad} {rvs : List V} {ds : List PyData} {kk ks : List (NestedKey × V)} {evs : List V} {ents : List (PyData × Option Nat)} {ms ls : List Int} {bs gs : List Nat}
    (h : EB P w K G H t rvs ds kk ks evs ents ms ls bs gs) (e : Ex H H') (kd : keysD ds = true) : EB P w K G H' t rvs ds kk ks evs ents ms ls bs gs where
  ge := h.ge.trans e
  fi := e _ _ h.fi
  rr := e _ _ h.rr
  rd := dta_ts (TpS.ex e) kd h.rd
  kn := h.kn.ex e
  hs := h.hs.ex e
  en := e _ _ h.en
  ev := Paired.mapP h.ev fun _ _ z => z.ts (TpS.ex e)
  mt := e _ _ h.mt
  lf := e _ _ h.lf
  br := let ⟨k, a, b⟩ := h.br; ⟨k, e _ _ a, b⟩
  go := let ⟨k, a, b⟩ := h.go; ⟨k, e _ _ a, b⟩
theorem metOf_app (S : List NestedKey) (l : List PyData) (x : PyData) : metOf S (l ++ [x]) = metOf S l + (if nk x ∈ S then 1 else 0) := by
  induction l with
  | nil => rw [List.nil_append, metOf_cons]; simp [metOf]
  | cons y l ih => rw [List.cons_append, metOf_cons, metOf_cons, ih]; omega
theorem leftOf_app (S : List NestedKey) (l : List PyData) (x : PyData) : leftOf S (l ++ [x]) = leftOf S l + (if nk x ∉ S ∧ nk (negD x) ∉ S then 1 else 0) := by
  induction l with
  | nil => rw [List.nil_append, leftOf_cons]; simp [leftOf]
  | cons y l ih => rw [List.cons_append, leftOf_cons, leftOf_cons, ih]; omega
theorem BrI.grow {ms ls : List Int} {bs gs : List Nat} (h : BrI ms ls bs gs) (x y : Int) : BrI (ms ++ [x]) (ls ++ [y]) (reS bs ms.length (decide (x = 0 ∧ y = 0))) (reS gs ms.length (decide (x = 0 ∧ y = 1))) := by
  obtain ⟨h1, h2, h3⟩ := h
  have e1 : ∀ j, j < ms.length → (ms ++ [x]).getD j 0 = ms.getD j 0 := fun j hj => by rw [List.getD_eq_getElem?_getD, List.getElem?_append_left hj, ← List.getD_eq_getElem?_getD]
  have e2 : ∀ j, j < ms.length → (ls ++ [y]).getD j 0 = ls.getD j 0 := fun j hj => by rw [List.getD_eq_getElem?_getD, List.getElem?_append_left (by omega), ← List.getD_eq_getElem?_getD]
  have e3 : (ms ++ [x]).getD ms.length 0 = x := by rw [List.getD_eq_getElem?_getD]; simp
  have e4 : (ls ++ [y]).getD ms.length 0 = y := by rw [List.getD_eq_getElem?_getD, h1]; simp
  refine ⟨by simp [h1], fun j => ?_, fun j => ?_⟩
  · rw [reS_mem, decide_eq_true_iff, List.length_append, List.length_singleton]
    by_cases z : j = ms.length
    · subst z; rw [e3, e4]; simp
    · simp only [z, false_and, false_or, ne_eq, not_false_eq_true, true_and]
      rw [h2 j]
      by_cases zz : j < ms.length
      · rw [e1 j zz, e2 j zz]; simp [zz]; intro _ _; omega
      · simp only [zz, false_and, false_iff, not_and]; intro w; omega
  · rw [reS_mem, decide_eq_true_iff, List.length_append, List.length_singleton]
    by_cases z : j = ms.length
    · subst z; rw [e3, e4]; simp
    · simp only [z, false_and, false_or, ne_eq, not_false_eq_true, true_and]
      rw [h3 j]
      by_cases zz : j < ms.length
      · rw [e1 j zz, e2 j zz]; simp [zz]; intro _ _; omega
      · simp only [zz, false_and, false_iff, not_and]; intro w; omega
/-- the holders, the row's first i literals entered -/
structure EH (P : Program) (w : World) (G H : Hp) (t : Ad) (rows : List (List PyData)) (pre : List PyData) (kh : List (NestedKey × V)) : Prop where
  d : DN P w H t.ho kh
  l : ∀ k, HL H kh (lists t) k (occ rows k ++ (if k ∈ pre.map nk then [rows.length] else []))
  i : ∀ k k' b, valV kh k = some (.ref b) → valV kh k' = some (.ref b) → k = k'
  g : ∀ k b, valV kh k = some (.ref b) → G b = none
theorem EH.but {P : Program} {w : World} {G H H' : Hp} {t : Ad} {rows : List (List PyData)} {pre : List PyData} {kh : List (NestedKey × V)} {a : Addr} (h : EH P w G H t rows pre kh) (b : But a H H') (n : t.ho ≠ a) (nl : ∀ xs, H a ≠ some (.lst xs)) (tp : TpS H H') : EH P w G H' t rows pre kh :=
  ⟨h.d.but b n tp, fun k => (h.l k).elim .inl fun ⟨x, y1, y2, y3⟩ => .inr ⟨x, y1, b x _ (fun z => nl _ (z ▸ y2)) y2, y3⟩, h.i, h.g⟩
theorem EH.ex {P : Program} {w : World} {G H H' : Hp} {t : Ad} {rows : List (List PyData)} {pre : List PyData} {kh : List (NestedKey × V)} (h : EH P w G H t rows pre kh) (e : Ex H H') : EH P w G H' t rows pre kh :=
  ⟨h.d.ex e, fun k => (h.l k).elim .inl fun ⟨x, y1, y2, y3⟩ => .inr ⟨x, y1, e _ _ y2, y3⟩, h.i, h.g⟩
section
variable {P : Program} {w : World} {K : PySem.W.Frag} {mg : Str → Option Value} {base : Heap}
def spEnter (P : Program) (w : World) (K : PySem.W.Frag) : Sp := fun vs H Q _ => ∃ (G : Hp) (t : Ad) (v : V) (row : List PyData) (rows : List (List PyData)) (S : List PyData) (ents : List (PyData × Option Nat)), vs = [.ref t.tr, v] ∧ TO P w K G H t rows S ents ∧ Dt H v (.tuple row) ∧ rowD (.tuple row) = true ∧
  (rows.map List.length).sum + row.length ≤ 50000 ∧ rows.length < 50000 ∧ ∀ H2, TpS H H2 → TO P w K G H2 t (rows ++ [row]) S ents → Q .non H2
abbrev NTrail_enter : List Str := ["self", "row", "n", "standing", "waiting", "literal"]
theorem scTrail_enter : FnScope NTrail_enter ["self", "row"] (defScope (inClass (top 27) 1)) := ⟨rfl, rfl, rfl, by decide +kernel, rfl, by decide +kernel, by decide +kernel⟩
theorem ok_enter (T : Txt K mg) (C_denied : Cal P w K mg base CX0 1 "denied" ["literal"] spDen) (M_Trail_sort_in : CalM P w K mg base CX0 1 "Trail" "sort_in" ["self", "n"] (spSort K)) : CalM P w K mg base CX0 2 "Trail" "enter" ["self", "row"] (spEnter P w K) := by
  refine mkCalM T.k_Trail T.e_Trail_enter T.d_Trail_enter scTrail_enter (fun _ _ _ _ _ _ us hl => match us, hl with | [_, _], _ => rfl) (fun vs H Q E h => ?_) fun cdv A outer s H vs Q E hr h => ?_
  · obtain ⟨_, _, _, _, _, _, _, rfl, _⟩ := h; rfl
  obtain ⟨G, t, v, row, rows, S, ents, rfl, to, hd, hrow, z1, z2, q⟩ := h
  refine ⟨_, (pss_cons (ps_set (i := 2) scTrail_enter.nd rfl (Or.inl rfl) (pe_callB (lenL (K := K)) (by rfl) T.n_len PySem.boot_len (pa_cons (pe_fl T.k_Trail T.a_Trail_rows (pv 0)) pa_nil)))
      (pss_cons (ps_expr (pe_bm PySem.F.plainAttrs_list PySem.F.slot_list_append PySem.F.type_list_append mt_append (pe_fl T.k_Trail T.a_Trail_rows (pv 0)) (pa_cons (pv 1) pa_nil)))
      (pss_cons (ps_nput (hu9 hr) (pe_fl T.k_Trail T.a_Trail_known (pv 0)) (pv 1) pe_bl rfl)
      (pss_cons (ps_set (i := 3) scTrail_enter.nd rfl (Or.inl rfl) pe_int)
      (pss_cons (ps_set (i := 4) scTrail_enter.nd rfl (Or.inl rfl) pe_int)
      (pss_cons (ps_for PassesOwn.never rfl (piT (K := K) (pv 1)) (pg_name (i := 5) scTrail_enter.nd rfl (Or.inl rfl)) (pss_cons (ps_nput (hu9 hr) (pe_fl T.k_Trail T.a_Trail_atoms (pv 0)) (pe_ix (ixT (K := K)) (pv 5) pe_int (fun _ _ => rfl)) pe_bl rfl)
      (pss_cut (ps_expr (pe_bm PySem.F.plainAttrs_list PySem.F.slot_list_append PySem.F.type_list_append mt_append (pe_nsetd (hu9 hr) (pe_fl T.k_Trail T.a_Trail_holders (pv 0)) (pv 5) (pe_lst pa_nil) ⟨rfl, rfl, rfl, rfl⟩) (pa_cons (pv 2) pa_nil)))
      (pss_one (ps_if (pt_cmpR (op_inN (hu9 hr)) (pv 5) (pe_fl T.k_Trail T.a_Trail_heights (pv 0)) (by rfl)) (pss_one (ps_aug (i := 3) scTrail_enter.nd rfl (Or.inl rfl) pe_int ip_add)) (pss_one (ps_if (pt_cmpR (op_notInN (hu9 hr)) (pe_cal (E := E0) C_denied (hr.mono (by decide)) pass0 (pa_cons (pv 5) pa_nil)) (pe_fl T.k_Trail T.a_Trail_heights (pv 0)) (by rfl)) (pss_one (ps_aug (i := 4) scTrail_enter.nd rfl (Or.inl rfl) pe_int ip_add)) pss_nil)))))))
      (pss_cons (ps_expr (pe_bm PySem.F.plainAttrs_list PySem.F.slot_list_append PySem.F.type_list_append mt_append (pe_fl T.k_Trail T.a_Trail_met (pv 0)) (pa_cons (pv 3) pa_nil)))
      (pss_cons (ps_expr (pe_bm PySem.F.plainAttrs_list PySem.F.slot_list_append PySem.F.type_list_append mt_append (pe_fl T.k_Trail T.a_Trail_left (pv 0)) (pa_cons (pv 4) pa_nil)))
      (pss_one (ps_expr (pe_mth (E := E0) M_Trail_sort_in (pv 0) (hr.mono (by decide)) pass0 (pa_cons (pv 2) pa_nil)))))))))))), ?_⟩
  obtain ⟨rvs, hrv, hrd⟩ := to.rr
  obtain ⟨kk, dkn, zk⟩ := to.kn
  obtain ⟨ka, dat, za⟩ := to.ats
  obtain ⟨kh, dho, zh, hol, hin, hog⟩ := to.ho
  obtain ⟨evs, hev, pev⟩ := to.en
  obtain ⟨ks, dhs, zhs, hks⟩ := to.hs
  obtain ⟨bs, gs, ib, ig, bi⟩ := to.br
  obtain ⟨⟨nre, nrm, nrl⟩, ⟨nem, nel⟩, nml⟩ := to.ne
  obtain ⟨⟨nka, nkh, nks⟩, ⟨nah, nas⟩, nhs⟩ := to.ned
  have hlit := row_lits hrow
  have hrl := dta_len hrd
  rw [List.length_map] at hrl
  have gn := to.gn
  simp only [own, List.mem_cons, List.not_mem_nil, or_false, forall_eq_or_imp, forall_eq] at gn
  obtain ⟨g1, g2, g3, g4, g5, g6, g7, g8, g9, g10, g11⟩ := gn
  have kd := rows_key to.rk
  have kd' : keysD ((rows ++ [row]).map PyData.tuple) = true := rows_key fun r hr => by
    rcases List.mem_append.mp hr with hr | hr
    · exact to.rk r hr
    · rw [List.mem_singleton.mp hr]; exact hrow
  obtain ⟨r, xs, rfl, hr1, hra⟩ := dt_tup hd
  have hxl := dta_len hra
  obtain ⟨φs, es⟩ := dhs.isx
  obtain ⟨φk, ek⟩ := dkn.isx
  obtain ⟨φa, ea⟩ := dat.isx
  obtain ⟨φh, eh⟩ := dho.isx
  obtain ⟨kb, hb, _⟩ := id ib
  obtain ⟨kg, hg, _⟩ := id ig
  -- n, rows
  refine ⟨_, rfl, t.tr, t.dx, _, _, rfl, to.fi, fl_rows t, t.r, rvs, rfl, .inl (SqL.of hrv), ?_⟩
  refine ⟨_, rfl, t.tr, t.dx, _, _, rfl, to.fi, fl_rows t, .inl ⟨rfl, _, SqL.of hrv⟩, _, rfl, t.r, rvs, _, rfl, rfl, hrv, Nat.lt_of_le_of_lt (show rvs.length ≤ 50000 by omega) (sz _ (by omega)), ?_⟩
  have b1 : But t.r H (upd H t.r (.lst (rvs ++ [.ref r]))) := But.put
  have tp1 := b1.ts fun xs' => by rw [hrv]; exact fun z => nomatch z
  have eb0 : EB P w K G (upd H t.r (.lst (rvs ++ [.ref r]))) t (rvs ++ [.ref r]) ((rows ++ [row]).map PyData.tuple) kk ks evs ents (mets (S.map nk) rows) (lefts (S.map nk) rows) bs gs := {
    ge := fun c o hc => b1 c o (fun z => by rw [z, g2] at hc; cases hc) (to.ge _ _ hc)
    fi := b1 _ _ (ne_of to.fi hrv (fun z => nomatch z)) to.fi
    rr := upd_same
    rd := by rw [List.map_append]; exact Hx.dta_app (dta_ts tp1 kd hrd) (.cons (dt_ts tp1 _ _ (by rw [keyD]; exact keysD_iff.mpr fun x hx => (lit_key (hlit x hx)).1) hd) .nil)
    kn := dkn.but b1 (ne_of ek hrv (fun z => nomatch z)) tp1
    hs := dhs.but b1 (ne_of es hrv (fun z => nomatch z)) tp1
    en := b1 _ _ (Ne.symm nre) hev
    ev := Paired.mapP pev fun _ _ z => z.ts tp1
    mt := b1 _ _ (Ne.symm nrm) to.mt
    lf := b1 _ _ (Ne.symm nrl) to.lf
    br := ib.but b1 (ne_of hb hrv (fun z => nomatch z))
    go := ig.but b1 (ne_of hg hrv (fun z => nomatch z)) }
  have eh0 : EH P w G (upd H t.r (.lst (rvs ++ [.ref r]))) t rows [] kh := ⟨dho.but b1 (ne_of eh hrv (fun z => nomatch z)) tp1, fun k => by
    rw [if_neg (by simp), List.append_nil]
    refine (hol k).elim .inl fun ⟨x, y1, y2, y3⟩ => .inr ⟨x, y1, b1 x _ (fun z => y3 (by rw [z]; simp [lists])) y2, y3⟩, hin, hog⟩
  have da0 := dat.but b1 (ne_of ea hrv (fun z => nomatch z)) tp1
  have hd0 := dt_ts tp1 _ _ (by rw [keyD]; exact keysD_iff.mpr fun x hx => (lit_key (hlit x hx)).1) hd
  generalize upd H t.r (.lst (rvs ++ [.ref r])) = H1 at tp1 eb0 eh0 da0 hd0
  clear b1
  -- known
  refine ⟨_, rfl, t.tr, t.dx, _, _, rfl, eb0.fi, fl_known t, _, rfl, t.kn, kk, _, rfl, eb0.kn, ky_row hd0 hlit, Nat.lt_of_le_of_lt (show kk.length ≤ 50000 by omega) (sz _ (by omega)), fun H2 on2 d2 => ?_⟩
  have b2 := But.only on2
  have tp2 := eb0.kn.ts on2
  have nk1 : t.kn ∉ [t.tr, t.r, t.hs, t.en, t.mt, t.lf, t.br, t.go] := fun m => by
    simp only [List.mem_cons, List.not_mem_nil, or_false] at m
    rcases m with m | m | m | m | m | m | m | m
    · rw [m, to.fi] at ek; cases ek
    · rw [m, hrv] at ek; cases ek
    · exact nks m
    · rw [m, hev] at ek; cases ek
    · rw [m, to.mt] at ek; cases ek
    · rw [m, to.lf] at ek; cases ek
    · rw [m, hb] at ek; cases ek
    · rw [m, hg] at ek; cases ek
  simp only [List.mem_cons, List.not_mem_nil, or_false, not_or] at nk1
  obtain ⟨m1, m2, m3, m4, m5, m6, m7, m8⟩ := nk1
  have eb2 : EB P w K G H2 t (rvs ++ [.ref r]) ((rows ++ [row]).map PyData.tuple) (putK kk (nk (.tuple row)) (.bl true)) ks evs ents (mets (S.map nk) rows) (lefts (S.map nk) rows) bs gs := {
    ge := fun c o hc => b2 c o (fun z => by rw [z, g3] at hc; cases hc) (eb0.ge _ _ hc)
    fi := b2 _ _ (Ne.symm m1) eb0.fi
    rr := b2 _ _ (Ne.symm m2) eb0.rr
    rd := dta_ts tp2 kd' eb0.rd
    kn := d2
    hs := eb0.hs.but b2 (Ne.symm m3) tp2
    en := b2 _ _ (Ne.symm m4) eb0.en
    ev := Paired.mapP eb0.ev fun _ _ z => z.ts tp2
    mt := b2 _ _ (Ne.symm m5) eb0.mt
    lf := b2 _ _ (Ne.symm m6) eb0.lf
    br := eb0.br.but b2 (Ne.symm m7)
    go := eb0.go.but b2 (Ne.symm m8) }
  have eh2 := eh0.but b2 (Ne.symm nkh) (fun xs' => by obtain ⟨φ, e⟩ := eb0.kn.isx; rw [e]; exact fun z => nomatch z) tp2
  have da2 := da0.but b2 (Ne.symm nka) tp2
  have tpH := tp1.trans tp2
  have zkk : (putK kk (nk (.tuple row)) (.bl true)).length ≤ rows.length + 1 := by have := length_putK kk (nk (.tuple row)) (.bl true); omega
  generalize putK kk (nk (.tuple row)) (.bl true) = kk2 at eb2 zkk
  clear eb0 eh0 da0 b2 tp1 tp2 d2 hd0
  have nats : t.ats ∉ [t.tr, t.r, t.kn, t.hs, t.en, t.mt, t.lf, t.br, t.go] := fun m => by
    simp only [List.mem_cons, List.not_mem_nil, or_false] at m
    rcases m with m | m | m | m | m | m | m | m | m
    · rw [m, to.fi] at ea; cases ea
    · rw [m, hrv] at ea; cases ea
    · exact nka m.symm
    · exact nas m
    · rw [m, hev] at ea; cases ea
    · rw [m, to.mt] at ea; cases ea
    · rw [m, to.lf] at ea; cases ea
    · rw [m, hb] at ea; cases ea
    · rw [m, hg] at ea; cases ea
  have nho : t.ho ∉ [t.tr, t.r, t.kn, t.hs, t.en, t.mt, t.lf, t.br, t.go] := fun m => by
    simp only [List.mem_cons, List.not_mem_nil, or_false] at m
    rcases m with m | m | m | m | m | m | m | m | m
    · rw [m, to.fi] at eh; cases eh
    · rw [m, hrv] at eh; cases eh
    · exact nkh m.symm
    · exact nhs m
    · rw [m, hev] at eh; cases eh
    · rw [m, to.mt] at eh; cases eh
    · rw [m, to.lf] at eh; cases eh
    · rw [m, hb] at eh; cases eh
    · rw [m, hg] at eh; cases eh
  have rnd := row_nodup hrow
  -- the literals
  have hr2 : H2 r = some (.tup xs) := tpH _ _ hr1
  refine ⟨_, rfl, r, rfl, ⟨xs, SqT.of hr2⟩, ?_⟩
  refine for_it walk_tup (fun i σ' H' => ∃ v ka' kh', σ' = [some (.ref t.tr), some (.ref r), some (.int rvs.length), some (.int (metOf (S.map nk) (row.take i) : Int)), some (.int (leftOf (S.map nk) (row.take i) : Int)), v] ∧ EB P w K G H' t (rvs ++ [.ref r]) ((rows ++ [row]).map PyData.tuple) kk2 ks evs ents (mets (S.map nk) rows) (lefts (S.map nk) rows) bs gs ∧ EH P w G H' t rows (row.take i) kh' ∧ DN P w H' t.ats ka' ∧ ka'.length ≤ ka.length + i ∧ kh'.length ≤ kh.length + i ∧ TpS H H')
    ⟨none, ka, kh, rfl, eb2, eh2, da2, Nat.le_refl _, Nat.le_refl _, tpH⟩ (fun i σ' H' hi ⟨_, _, _, _, _, _, _, _, _, tp⟩ => SqT.of (tp _ _ hr1)) ?_ ?_
  · rintro i v σ' H' H3 hi ⟨v0, ka3, kh3, rfl, eb3, eh3, da3, zka, zkh, tp3⟩ ⟨rfl, hv⟩
    obtain ⟨di, hdi, hti⟩ := dta_get hra hv
    have hld := hlit di (List.mem_of_getElem? hdi)
    have htk : row.take (i + 1) = row.take i ++ [di] := by rw [List.take_succ, hdi]; rfl
    have hir : i < row.length := (List.getElem?_eq_some_iff.mp hdi).1
    obtain ⟨rl, x, a, b, rfl, hrl1, hxa, hat, rfl⟩ := lit_at (dt_ts tp3 _ _ (lit_key hld).1 hti) hld
    have nx : negD (PyData.tuple [a, .bool b]) = PyData.tuple [a, .bool (!b)] := rfl
    -- atoms
    refine ⟨_, rfl, t.tr, t.dx, _, _, rfl, eb3.fi, fl_atoms t, _, rfl, rl, _, 0, _, rfl, rfl, SqT.of hrl1, rfl, t.ats, ka3, _, rfl, da3, ky_atom hxa hat, Nat.lt_of_le_of_lt (show ka3.length ≤ 100000 by omega) (sz _ (by omega)), fun H4 on4 d4 => ?_⟩
    have b4 := But.only on4
    have tp4 := da3.ts on4
    obtain ⟨φ4, e4⟩ := da3.isx
    have eb4 := eb3.but b4 nats g4 tp4 kd'
    have eh4 := eh3.but b4 (Ne.symm nah) (fun xs' => by rw [e4]; exact fun z => nomatch z) tp4
    have zk4 : (putK ka3 (nk a) (.bl true)).length ≤ ka.length + (i + 1) := by have := length_putK ka3 (nk a) (.bl true); omega
    have hrl4 := tp4 _ _ hrl1
    have hxa4 := dt_ts tp4 _ _ (atom_key hat).1 hxa
    have tp04 := tp3.trans tp4
    generalize putK ka3 (nk a) (.bl true) = ka4 at d4 zk4
    clear eb3 eh3 da3 b4 tp4 on4 e4 tp3 hrl1 hxa
    -- holders
    have knp : nk (PyData.tuple [a, .bool b]) ∉ (row.take i).map nk := fun m => by
      have h3 : ((row.take (i + 1)).map nk).Nodup := by
        have := rnd
        rw [← List.take_append_drop (i + 1) row, List.map_append, List.nodup_append] at this
        exact this.1
      rw [htk, List.map_append, List.nodup_append] at h3
      exact h3.2.2 _ m _ (by simp) rfl
    have pre_k : ∀ k, k ≠ nk (PyData.tuple [a, .bool b]) → ((k ∈ (row.take (i + 1)).map nk) ↔ k ∈ (row.take i).map nk) := fun k hk => by
      rw [htk, List.map_append, List.mem_append]
      simp [hk]
    have pre_e : nk (PyData.tuple [a, .bool b]) ∈ (row.take (i + 1)).map nk := by rw [htk, List.map_append]; simp
    refine ⟨fun σ' H' => ∃ kh5, σ' = [some (.ref t.tr), some (.ref r), some (.int rvs.length), some (.int (metOf (S.map nk) (row.take i) : Int)), some (.int (leftOf (S.map nk) (row.take i) : Int)), some (.ref rl)] ∧ EB P w K G H' t (rvs ++ [.ref r]) ((rows ++ [row]).map PyData.tuple) kk2 ks evs ents (mets (S.map nk) rows) (lefts (S.map nk) rows) bs gs ∧ EH P w G H' t rows (row.take (i + 1)) kh5 ∧ DN P w H' t.ats ka4 ∧ kh5.length ≤ kh.length + (i + 1) ∧ TpS H4 H', ?_, ?_⟩
    · refine ⟨_, rfl, t.tr, t.dx, _, _, rfl, eb4.fi, fl_holders t, t.ho, rfl, ⟨_, eh4.d⟩, _, rfl, szl 0 (by omega), fun p hp => ?_⟩
      have ep := Evl.Ex.new hp (o := .lst [])
      have eb5 := eb4.ex ep kd'
      have eh5 := eh4.ex ep
      have d5 := d4.ex ep
      have hrl5 := ep _ _ hrl4
      have hxa5 := ex_dt ep _ _ hxa4
      have hp5 : upd H4 p (.lst []) p = some (.lst []) := upd_same
      have tp5 := TpS.ex ep
      generalize upd H4 p (.lst []) = H5 at ep eb5 eh5 d5 hrl5 hxa5 hp5 tp5
      have npl : ∀ c o, H4 c = some o → c ≠ p := fun c o hc => ne_of_none hc hp
      have nlist : ∀ c l', H5 c = some (.lst l') → c ∉ lists t → c ∉ [t.tr, t.r, t.kn, t.hs, t.en, t.mt, t.lf, t.br, t.go] := fun c l' hc hn m => by
        simp only [lists, List.mem_cons, List.not_mem_nil, or_false, not_or] at hn
        obtain ⟨φ1, x1⟩ := eb5.kn.isx
        obtain ⟨φ2, x2⟩ := eb5.hs.isx
        obtain ⟨k1, x3, _⟩ := eb5.br
        obtain ⟨k2, x4, _⟩ := eb5.go
        simp only [List.mem_cons, List.not_mem_nil, or_false] at m
        rcases m with m | m | m | m | m | m | m | m | m
        · rw [m, eb5.fi] at hc; cases hc
        · exact hn.1 m
        · rw [m, x1] at hc; cases hc
        · rw [m, x2] at hc; cases hc
        · exact hn.2.1 m
        · exact hn.2.2.1 m
        · exact hn.2.2.2 m
        · rw [m, x3] at hc; cases hc
        · rw [m, x4] at hc; cases hc
      refine ⟨kh3, _, eh5.d, ky_lit (dtl hrl5 hxa5) hld, Nat.lt_of_le_of_lt (show kh3.length ≤ 100000 by omega) (sz _ (by omega)), fun v hv' => ?_, fun hn H6 on6 d6 => ?_⟩
      · rcases eh5.l (nk (PyData.tuple [a, .bool b])) with ⟨z, _⟩ | ⟨b0, y1, y2, y3⟩
        · rw [hv'] at z; cases z
        rw [hv'] at y1
        obtain rfl := Option.some.inj y1
        rw [if_neg knp, List.append_nil] at y2
        have zoc : (occ rows (nk (PyData.tuple [a, .bool b]))).length ≤ 50000 := by
          have := nodup_lenG (L := List.range rows.length) (occ_nodup rows (nk (PyData.tuple [a, .bool b]))) fun z hz => List.mem_range.mpr (occ_mem.mp hz).1
          rw [List.length_range] at this; omega
        refine ⟨.inl ⟨rfl, _, SqL.of y2⟩, _, rfl, b0, _, _, rfl, rfl, y2, Nat.lt_of_le_of_lt (show (List.map _ _).length ≤ 50000 by rw [List.length_map]; exact zoc) (sz _ (by omega)), ?_⟩
        have b6 : But b0 H5 (upd H5 b0 (.lst ((occ rows (nk (PyData.tuple [a, .bool b]))).map (fun n : Nat => V.int (n : Int)) ++ [.int rvs.length]))) := But.put
        have tp6 := b6.ts fun xs' => by rw [y2]; exact fun z => nomatch z
        have g0 := eh5.g _ _ hv'
        obtain ⟨φ6, e6⟩ := eh5.d.isx
        obtain ⟨φ7, e7⟩ := d5.isx
        refine ⟨kh3, rfl, eb5.but b6 (nlist _ _ y2 y3) g0 tp6 kd', ⟨eh5.d.but b6 (ne_of e6 y2 (fun z => nomatch z)) tp6, fun k => ?_, eh5.i, eh5.g⟩, d5.but b6 (ne_of e7 y2 (fun z => nomatch z)) tp6, by omega, tp5.trans tp6⟩
        by_cases hk : k = nk (PyData.tuple [a, .bool b])
        · subst hk
          refine .inr ⟨b0, hv', ?_, y3⟩
          rw [upd_same, if_pos pre_e, List.map_append, hrl]
          rfl
        · have e := pre_k k hk
          simp only [e]
          refine (eh5.l k).elim .inl fun ⟨c, w1, w2, w3⟩ => .inr ⟨c, w1, ?_, w3⟩
          exact b6 c _ (fun z => hk (eh5.i _ _ _ w1 (z ▸ hv'))) w2
      · have hp6 : H6 p = some (.lst []) := (on6 p (eh5.d.ne hp5 (fun _ z => nomatch z))).trans hp5
        refine ⟨.inl ⟨rfl, _, SqL.of hp6⟩, _, rfl, p, _, _, rfl, rfl, hp6, Nat.lt_of_le_of_lt (Nat.zero_le _) (sz _ (Nat.zero_le _)), ?_⟩
        have b6 := But.only on6
        have tp6 := eh5.d.ts on6
        obtain ⟨φ6, e6⟩ := eh5.d.isx
        have eb6 := eb5.but b6 nho g5 tp6 kd'
        have b7 : But p H6 (upd H6 p (.lst ([] ++ [.int rvs.length]))) := But.put
        have tp7 := b7.ts fun xs' => by rw [hp6]; exact fun z => nomatch z
        have Gp : G p = none := Evl.fresh_back eb4.ge hp
        have npt : p ∉ lists t := fun m => by
          simp only [lists, List.mem_cons, List.not_mem_nil, or_false] at m
          rcases m with m | m | m | m
          · exact npl _ _ eb4.rr m.symm
          · exact npl _ _ eb4.en m.symm
          · exact npl _ _ eb4.mt m.symm
          · exact npl _ _ eb4.lf m.symm
        have np9 : p ∉ [t.tr, t.r, t.kn, t.hs, t.en, t.mt, t.lf, t.br, t.go] := nlist p _ hp5 npt
        have nhp : t.ho ≠ p := by
          obtain ⟨φ, e⟩ := eh4.d.isx
          exact npl _ _ e
        have nap : t.ats ≠ p := by
          obtain ⟨φ, e⟩ := d4.isx
          exact npl _ _ e
        have vput : ∀ k, valV (putK kh3 (nk (PyData.tuple [a, .bool b])) (.ref p)) k = if k = nk (PyData.tuple [a, .bool b]) then some (.ref p) else valV kh3 k := fun k => valV_put ..
        have nop : ∀ k, valV kh3 k ≠ some (.ref p) := fun k z => by
          rcases eh4.l k with ⟨w1, _⟩ | ⟨c, w1, w2, _⟩
          · rw [z] at w1; cases w1
          · rw [z] at w1
            have : c = p := by injection (Option.some.inj w1) with h; exact h.symm
            exact npl c _ w2 this
        refine ⟨_, rfl, eb6.but b7 np9 Gp tp7 kd', ⟨d6.but b7 nhp tp7, fun k => ?_, fun k k' c h1 h2 => ?_, fun k c h1 => ?_⟩, (d5.but b6 (Ne.symm (Ne.symm nah)) tp6).but b7 nap tp7, ?_, (tp5.trans tp6).trans tp7⟩
        · by_cases hk : k = nk (PyData.tuple [a, .bool b])
          · subst hk
            refine .inr ⟨p, by rw [vput, if_pos rfl], ?_, npt⟩
            rcases eh5.l (nk (PyData.tuple [a, .bool b])) with ⟨_, z⟩ | ⟨b0, y1, _⟩
            · have zo : occ rows (nk (PyData.tuple [a, .bool b])) = [] := (List.append_eq_nil_iff.mp z).1
              rw [upd_same, if_pos pre_e, zo, hrl]
              rfl
            · rw [hn] at y1; cases y1
          · have e := pre_k k hk
            simp only [e]
            have vk : valV (putK kh3 (nk (PyData.tuple [a, .bool b])) (.ref p)) k = valV kh3 k := by rw [vput, if_neg hk]
            unfold HL
            rw [vk]
            refine (eh5.l k).elim .inl fun ⟨c, w1, w2, w3⟩ => .inr ⟨c, w1, ?_, w3⟩
            have ncp : c ≠ p := fun z => nop k (z ▸ w1)
            exact b7 c _ ncp (b6 c _ (eh5.d.ne w2 (fun _ z => nomatch z)) w2)
        · rw [vput] at h1 h2
          by_cases k1 : k = nk (PyData.tuple [a, .bool b])
          · by_cases k2 : k' = nk (PyData.tuple [a, .bool b])
            · rw [k1, k2]
            · rw [if_pos k1] at h1; rw [if_neg k2] at h2
              rw [← h1] at h2
              exact absurd h2 (nop k')
          · by_cases k2 : k' = nk (PyData.tuple [a, .bool b])
            · rw [if_neg k1] at h1; rw [if_pos k2] at h2
              rw [← h2] at h1
              exact absurd h1 (nop k)
            · rw [if_neg k1] at h1; rw [if_neg k2] at h2
              exact eh5.i _ _ _ h1 h2
        · rw [vput] at h1
          by_cases k1 : k = nk (PyData.tuple [a, .bool b])
          · rw [if_pos k1] at h1
            injection h1 with h1; injection h1 with h1
            rw [← h1]; exact Gp
          · rw [if_neg k1] at h1; exact eh5.g _ _ h1
        · have := length_putK kh3 (nk (PyData.tuple [a, .bool b])) (.ref p); omega
    rintro σ' H6 ⟨kh6, rfl, eb6, eh6, d6, zkh6, tp6⟩
    have hrl6 := tp6 _ _ hrl4
    have hxa6 := dt_ts tp6 _ _ (atom_key hat).1 hxa4
    have tp06 := tp04.trans tp6
    have bo : ∀ k, (valV ks k).isSome = decide (k ∈ S.map nk) := fun k => by rw [Bool.eq_iff_iff, decide_eq_true_iff]; exact hks k
    refine ⟨_, rfl, _, rfl, t.tr, t.dx, _, _, rfl, eb6.fi, fl_heights t, t.hs, ks, _, rfl, eb6.hs, ky_lit (dtl hrl6 hxa6) hld, _, rfl, ?_⟩
    rw [bo]
    have em := metOf_app (S.map nk) (row.take i) (PyData.tuple [a, .bool b])
    have el := leftOf_app (S.map nk) (row.take i) (PyData.tuple [a, .bool b])
    rw [← htk] at em el
    refine ite2 (fun h1 => ?_) (fun h1 => ?_)
    · have h1 := of_decide_eq_true h1
      rw [if_pos h1] at em
      rw [if_neg (fun z => z.1 h1)] at el
      refine ⟨_, rfl, _, _, rfl, rfl, ?_⟩
      exact ⟨_, ka4, kh6, by rw [em, el]; rfl, eb6, eh6, d6, zk4, zkh6, tp06⟩
    · have h1 : nk (PyData.tuple [a, .bool b]) ∉ S.map nk := fun z => h1 (decide_eq_true z)
      rw [if_neg h1] at em
      refine ⟨_, rfl, rl, x, b, rfl, hrl6, fun p hp => ?_⟩
      have ep := Evl.Ex.new hp (o := .tup [x, .bl (!b)])
      have eb7 := eb6.ex ep kd'
      refine ⟨_, rfl, t.tr, t.dx, _, _, rfl, eb7.fi, fl_heights t, t.hs, ks, _, rfl, eb7.hs, ky_lit (dtl upd_same (ex_dt ep _ _ hxa6)) (by simp [litD, isT, hat]), _, rfl, ?_⟩
      rw [bo]
      refine ite2 (fun h2 => ?_) (fun h2 => ?_)
      · have h2 : nk (PyData.tuple [a, .bool (!b)]) ∉ S.map nk := fun z => by rw [decide_eq_true z] at h2; cases h2
        rw [if_pos ⟨h1, by rw [nx]; exact h2⟩] at el
        refine ⟨_, rfl, _, _, rfl, rfl, ?_⟩
        exact ⟨_, ka4, kh6, by rw [em, el]; rfl, eb7, eh6.ex ep, d6.ex ep, zk4, zkh6, tp06.trans (TpS.ex ep)⟩
      · have h2 : nk (PyData.tuple [a, .bool (!b)]) ∈ S.map nk := Classical.byContradiction fun z => h2 (by rw [decide_eq_false z]; rfl)
        rw [if_neg (fun z => z.2 (by rw [nx]; exact h2))] at el
        exact ⟨_, ka4, kh6, by rw [em, el]; rfl, eb7, eh6.ex ep, d6.ex ep, zk4, zkh6, tp06.trans (TpS.ex ep)⟩
  · rintro σ' H3 ⟨v0, ka3, kh3, rfl, eb3, eh3, da3, zka, zkh, tp3⟩
    have ez : row.take xs.length = row := by rw [hxl, List.take_length]
    rw [ez] at eh3 ⊢
    rw [hxl] at zka zkh
    have em : mets (S.map nk) (rows ++ [row]) = mets (S.map nk) rows ++ [(metOf (S.map nk) row : Int)] := by simp [mets]
    have el : lefts (S.map nk) (rows ++ [row]) = lefts (S.map nk) rows ++ [(leftOf (S.map nk) row : Int)] := by simp [lefts]
    have lmL : (mets (S.map nk) rows).length = rows.length := by rw [List.length_map]
    have llL : (lefts (S.map nk) rows).length = rows.length := by rw [List.length_map]
    refine ⟨_, rfl, t.tr, t.dx, _, _, rfl, eb3.fi, fl_met t, .inl ⟨rfl, _, SqL.of eb3.mt⟩, _, rfl, t.mt, _, _, rfl, rfl, eb3.mt, Nat.lt_of_le_of_lt (show (List.map V.int (mets (S.map nk) rows)).length ≤ 50000 by rw [List.length_map, lmL]; omega) (sz _ (by omega)), ?_⟩
    have f1 : Frm [t.mt, t.lf, t.br, t.go] H3 (upd H3 t.mt (.lst ((mets (S.map nk) rows).map V.int ++ [.int (metOf (S.map nk) row : Int)]))) := Frm.put (by simp)
    have hm4 : upd H3 t.mt (.lst ((mets (S.map nk) rows).map V.int ++ [.int (metOf (S.map nk) row : Int)])) t.mt = some (.lst ((mets (S.map nk) (rows ++ [row])).map V.int)) := by rw [upd_same, em, List.map_append]; rfl
    have hl4 : upd H3 t.mt (.lst ((mets (S.map nk) rows).map V.int ++ [.int (metOf (S.map nk) row : Int)])) t.lf = some (.lst ((lefts (S.map nk) rows).map V.int)) := by rw [upd_ne (Ne.symm nml)]; exact eb3.lf
    have ib4 : IK (upd H3 t.mt (.lst ((mets (S.map nk) rows).map V.int ++ [.int (metOf (S.map nk) row : Int)]))) t.br bs := let ⟨k, a1, a2⟩ := eb3.br; ⟨k, by rw [upd_ne (ne_of a1 eb3.mt (fun z => nomatch z))]; exact a1, a2⟩
    have ig4 : IK (upd H3 t.mt (.lst ((mets (S.map nk) rows).map V.int ++ [.int (metOf (S.map nk) row : Int)]))) t.go gs := let ⟨k, a1, a2⟩ := eb3.go; ⟨k, by rw [upd_ne (ne_of a1 eb3.mt (fun z => nomatch z))]; exact a1, a2⟩
    have fi4 : upd H3 t.mt (.lst ((mets (S.map nk) rows).map V.int ++ [.int (metOf (S.map nk) row : Int)])) t.tr = _ := (upd_ne (ne_of eb3.fi eb3.mt (fun z => nomatch z))).trans eb3.fi
    generalize upd H3 t.mt (.lst ((mets (S.map nk) rows).map V.int ++ [.int (metOf (S.map nk) row : Int)])) = H4 at f1 hm4 hl4 ib4 ig4 fi4
    refine ⟨_, rfl, t.tr, t.dx, _, _, rfl, fi4, fl_left t, .inl ⟨rfl, _, SqL.of hl4⟩, _, rfl, t.lf, _, _, rfl, rfl, hl4, Nat.lt_of_le_of_lt (show (List.map V.int (lefts (S.map nk) rows)).length ≤ 50000 by rw [List.length_map, llL]; omega) (sz _ (by omega)), ?_⟩
    have f2 : Frm [t.mt, t.lf, t.br, t.go] H3 (upd H4 t.lf (.lst ((lefts (S.map nk) rows).map V.int ++ [.int (leftOf (S.map nk) row : Int)]))) := f1.trans (Frm.put (by simp))
    have hl5 : upd H4 t.lf (.lst ((lefts (S.map nk) rows).map V.int ++ [.int (leftOf (S.map nk) row : Int)])) t.lf = some (.lst ((lefts (S.map nk) (rows ++ [row])).map V.int)) := by rw [upd_same, el, List.map_append]; rfl
    have hm5 : upd H4 t.lf (.lst ((lefts (S.map nk) rows).map V.int ++ [.int (leftOf (S.map nk) row : Int)])) t.mt = some (.lst ((mets (S.map nk) (rows ++ [row])).map V.int)) := by rw [upd_ne nml]; exact hm4
    have ib5 : IK (upd H4 t.lf (.lst ((lefts (S.map nk) rows).map V.int ++ [.int (leftOf (S.map nk) row : Int)]))) t.br bs := let ⟨k, a1, a2⟩ := ib4; ⟨k, by rw [upd_ne (ne_of a1 hl4 (fun z => nomatch z))]; exact a1, a2⟩
    have ig5 : IK (upd H4 t.lf (.lst ((lefts (S.map nk) rows).map V.int ++ [.int (leftOf (S.map nk) row : Int)]))) t.go gs := let ⟨k, a1, a2⟩ := ig4; ⟨k, by rw [upd_ne (ne_of a1 hl4 (fun z => nomatch z))]; exact a1, a2⟩
    have fi5 : upd H4 t.lf (.lst ((lefts (S.map nk) rows).map V.int ++ [.int (leftOf (S.map nk) row : Int)])) t.tr = _ := (upd_ne (ne_of fi4 hl4 (fun z => nomatch z))).trans fi4
    generalize upd H4 t.lf (.lst ((lefts (S.map nk) rows).map V.int ++ [.int (leftOf (S.map nk) row : Int)])) = H5 at f2 hm5 hl5 ib5 ig5 fi5
    have zb := bi.lenB ib5.choose_spec.2.2
    have zg := bi.lenG ig5.choose_spec.2.2
    refine ⟨_, rfl, t.tr, t.dx, _, rfl, fi5, no_sort_in t, _, rfl, ?_⟩
    refine ⟨t.tr, t.dx, t.br, t.go, t.mt, t.lf, flds t, rvs.length, _, _, bs, gs, rfl, fi5, fl_broken t, fl_going t, fl_met t, fl_left t, hm5, hl5, by rw [em, List.length_append, lmL, List.length_singleton]; omega, by rw [el, List.length_append, llL, List.length_singleton]; omega, ib5, ig5, to.nb, by omega, by omega, fun H6 f6 i1 i2 => ?_⟩
    have f26 : Frm [t.mt, t.lf, t.br, t.go] H3 H6 := f2.trans (f6.wk (by simp))
    have nF : ∀ c o, H3 c = some o → (∀ kvs, o ≠ .dK kvs) → (∀ xs, o = .lst xs → c ≠ t.mt ∧ c ≠ t.lf) → c ∉ [t.mt, t.lf, t.br, t.go] := fun c o hc m1 m2 hm' => by
      obtain ⟨kb', ib', _⟩ := eb3.br
      obtain ⟨kg', ig', _⟩ := eb3.go
      simp only [List.mem_cons, List.not_mem_nil, or_false] at hm'
      rcases hm' with rfl | rfl | rfl | rfl
      · rw [eb3.mt] at hc; exact (m2 _ (Option.some.inj hc).symm).1 rfl
      · rw [eb3.lf] at hc; exact (m2 _ (Option.some.inj hc).symm).2 rfl
      · rw [ib'] at hc; exact m1 _ (Option.some.inj hc).symm
      · rw [ig'] at hc; exact m1 _ (Option.some.inj hc).symm
    have nD : ∀ {c : Addr} {kv : List (NestedKey × V)}, DN P w H3 c kv → c ∉ [t.mt, t.lf, t.br, t.go] := fun {c kv} d => by
      obtain ⟨φ, e⟩ := d.isx
      exact nF c _ e (fun _ z => nomatch z) (fun _ z => nomatch z)
    have tp6 : TpS H3 H6 := fun c ys hc => f26.at hc (nF c _ hc (fun _ z => nomatch z) (fun _ z => nomatch z))
    have rk' : ∀ r ∈ rows ++ [row], rowD (.tuple r) = true := fun r hr => by
      rcases List.mem_append.mp hr with hr | hr
      · exact to.rk r hr
      · rw [List.mem_singleton.mp hr]; exact hrow
    have zsum : ((rows ++ [row]).map List.length).sum = (rows.map List.length).sum + row.length := by simp
    have zlen : (rows ++ [row]).length = rows.length + 1 := by simp
    have bi' : BrI (mets (S.map nk) (rows ++ [row])) (lefts (S.map nk) (rows ++ [row])) (reS bs rvs.length (decide ((mets (S.map nk) (rows ++ [row])).getD rvs.length 0 = 0 ∧ (lefts (S.map nk) (rows ++ [row])).getD rvs.length 0 = 0))) (reS gs rvs.length (decide ((mets (S.map nk) (rows ++ [row])).getD rvs.length 0 = 0 ∧ (lefts (S.map nk) (rows ++ [row])).getD rvs.length 0 = 1))) := by
      have e1 : (mets (S.map nk) (rows ++ [row])).getD rvs.length 0 = (metOf (S.map nk) row : Int) := by rw [em, hrl, ← lmL, List.getD_eq_getElem?_getD]; simp
      have e2 : (lefts (S.map nk) (rows ++ [row])).getD rvs.length 0 = (leftOf (S.map nk) row : Int) := by rw [el, hrl, ← llL, List.getD_eq_getElem?_getD]; simp
      rw [e1, e2, em, el, hrl, ← lmL]
      exact bi.grow _ _
    refine q H6 (tp3.trans tp6) {
      ge := fun c o hc => f26.at (eb3.ge _ _ hc) fun m => by
        simp only [List.mem_cons, List.not_mem_nil, or_false] at m
        rcases m with m | m | m | m <;> rw [m] at hc
        · rw [g8] at hc; cases hc
        · rw [g9] at hc; cases hc
        · rw [g10] at hc; cases hc
        · rw [g11] at hc; cases hc
      gn := to.gn
      fi := f26.at eb3.fi (nF _ _ eb3.fi (fun _ z => nomatch z) (fun _ z => nomatch z))
      rr := ⟨_, f26.at eb3.rr (nF _ _ eb3.rr (fun _ z => nomatch z) (fun _ _ => ⟨nrm, nrl⟩)), dta_ts tp6 kd' eb3.rd⟩
      kn := ⟨kk2, eb3.kn.frm f26 (nD eb3.kn) tp6, by omega⟩
      ats := ⟨ka3, da3.frm f26 (nD da3) tp6, by omega⟩
      ho := ⟨kh3, eh3.d.frm f26 (nD eh3.d) tp6, by omega, fun k => by
        rw [occ_snoc]
        refine (eh3.l k).elim .inl fun ⟨x, y1, y2, y3⟩ => .inr ⟨x, y1, f26.at y2 (nF _ _ y2 (fun _ z => nomatch z) (fun _ _ => ?_)), y3⟩
        simp only [lists, List.mem_cons, List.not_mem_nil, or_false, not_or] at y3
        exact ⟨y3.2.2.1, y3.2.2.2⟩, eh3.i, eh3.g⟩
      en := ⟨evs, f26.at eb3.en (nF _ _ eb3.en (fun _ z => nomatch z) (fun _ _ => ⟨nem, nel⟩)), Paired.mapP eb3.ev fun _ _ z => z.ts tp6⟩
      hs := ⟨ks, eb3.hs.frm f26 (nD eb3.hs) tp6, zhs, hks⟩
      mt := f6.at hm5 (fun m => by
        obtain ⟨kb', ib', _⟩ := ib5
        obtain ⟨kg', ig', _⟩ := ig5
        simp only [List.mem_cons, List.not_mem_nil, or_false] at m
        rcases m with m | m
        · rw [m, ib'] at hm5; cases hm5
        · rw [m, ig'] at hm5; cases hm5)
      lf := f6.at hl5 (fun m => by
        obtain ⟨kb', ib', _⟩ := ib5
        obtain ⟨kg', ig', _⟩ := ig5
        simp only [List.mem_cons, List.not_mem_nil, or_false] at m
        rcases m with m | m
        · rw [m, ib'] at hl5; cases hl5
        · rw [m, ig'] at hl5; cases hl5)
      br := ⟨_, _, i1, i2, bi'⟩
      nl := to.nl
      nb := to.nb
      nd := to.nd
      rk := rk'
      z1 := by omega
      z2 := by omega
      z3 := to.z3
      z4 := to.z4 }
end
end K21
namespace K21
open PySem PySem.Spec PyProof.Rows L2 Hx Hd
open Evl (pss_cut tCut ex_l ex_t)
open M21
def spIni (C : Addr) (f : Str) : Sp := fun vs H Q _ => ∃ a y, vs = [.ref a, y] ∧ H a = some (exo a C none) ∧ ∀ dx, H dx = none → dx ≠ a → Q .non (upd (upd H dx (exd dx [(f, y)])) a (exo a C (some dx)))
def spIni2 (C : Addr) (f g : Str) : Sp := fun vs H Q _ => ∃ a y z, vs = [.ref a, y, z] ∧ H a = some (exo a C none) ∧ ∀ dx, H dx = none → dx ≠ a → ∀ H2, H2 = upd (upd (upd H dx (exd dx [(f, y)])) a (exo a C (some dx))) dx (exd dx [(g, z), (f, y)]) → Q .non H2
/-- how an error is told -/
def Err (C : Addr) (fs : List (Str × V)) (H : Hp) (E : XK) : Prop := ∀ d H2, Ex H H2 → H d = none → H2 d = some (.xd fs) → E (.ref C) (some d) H2
theorem Err.mono {C : Addr} {fs : List (Str × V)} {H H1 : Hp} {E : XK} (h : Err C fs H E) (e : Ex H H1) : Err C fs H1 E := fun d H2 e2 n q => h d H2 (e.trans e2) (Evl.fresh_back e n) q
theorem raises {C : Addr} {f : Str} {y : V} {H : Hp} {E : XK} (q : Err C [(f, y)] H E) {H1 : Hp} (e : Ex H H1) : ∀ a, H1 a = none → spIni C f (.ref a :: ([y] ++ [])) (upd H1 a (exo a C none))
      (fun v H2 => v = .non ∧ ∃ (d : Addr) (fs : List (Str × V)), H2 a = some (exo a C (some d)) ∧ H2 d = some (exd d fs) ∧ H1 d = none ∧ E (.ref C) (some d) (upd (L2.del H2 a) d (.xd fs))) (fun _ _ _ => False) := by
  intro a ha
  refine ⟨a, _, rfl, upd_same, fun dx hx hne => ⟨rfl, dx, _, upd_same, by rw [upd_ne hne, upd_same], ?_, q dx _ ?_ ?_ upd_same⟩⟩
  · rw [upd_ne hne] at hx; exact hx
  · intro b o hb
    have hb1 := e b o hb
    have n1 : b ≠ a := ne_of_none hb1 ha
    have n2 : b ≠ dx := ne_of_none hb1 (by rw [upd_ne hne] at hx; exact hx)
    rw [upd_ne n2, L2.del_ne n1, upd_ne n1, upd_ne n2, upd_ne n1]
    exact hb1
  · rw [upd_ne hne] at hx
    exact Evl.fresh_back e hx
theorem raises2 {C : Addr} {f g : Str} {y z : V} {H : Hp} {E : XK} (q : Err C [(g, z), (f, y)] H E) {H1 : Hp} (e : Ex H H1) : ∀ a, H1 a = none → spIni2 C f g (.ref a :: ([y, z] ++ [])) (upd H1 a (exo a C none))
      (fun v H2 => v = .non ∧ ∃ (d : Addr) (fs : List (Str × V)), H2 a = some (exo a C (some d)) ∧ H2 d = some (exd d fs) ∧ H1 d = none ∧ E (.ref C) (some d) (upd (L2.del H2 a) d (.xd fs))) (fun _ _ _ => False) := by
  intro a ha
  refine ⟨a, _, _, rfl, upd_same, fun dx hx hne H2 hH2 => ?_⟩
  subst hH2
  refine ⟨rfl, dx, _, by rw [upd_ne (Ne.symm hne), upd_same], upd_same, ?_, q dx _ ?_ ?_ upd_same⟩
  · rw [upd_ne hne] at hx; exact hx
  · intro b o hb
    have hb1 := e b o hb
    have n1 : b ≠ a := ne_of_none hb1 ha
    have n2 : b ≠ dx := ne_of_none hb1 (by rw [upd_ne hne] at hx; exact hx)
    rw [upd_ne n2, L2.del_ne n1, upd_ne n2, upd_ne n1, upd_ne n2, upd_ne n1]
    exact hb1
  · rw [upd_ne hne] at hx
    exact Evl.fresh_back e hx
section
variable {P : Program} {w : World} {K : PySem.W.Frag} {mg : Str → Option Value} {base : Heap}
theorem scBV : FnScope ["self", "name"] ["self", "name"] (defScope (inClass (top 8) 0)) := ⟨rfl, rfl, rfl, by decide +kernel, rfl, by decide +kernel, by decide +kernel⟩
theorem scTM : FnScope ["self", "word"] ["self", "word"] (defScope (inClass (top 10) 0)) := ⟨rfl, rfl, rfl, by decide +kernel, rfl, by decide +kernel, by decide +kernel⟩
theorem scBL : FnScope ["self", "index", "word"] ["self", "index", "word"] (defScope (inClass (top 5) 0)) := ⟨rfl, rfl, rfl, by decide +kernel, rfl, by decide +kernel, by decide +kernel⟩
theorem ok_iniBV (T : Txt K mg) : ∃ fd, FnOk P w K mg base CX0 1 (He.ma K (He.ga K "BadValue") "__init__") fd ["self", "name"] (spIni (He.ga K "BadValue") "name") ∧ Binds K fd ["self", "name"] [] := by
  obtain ⟨fd, F⟩ := T.i_BadValue
  refine ⟨fd, F.ok scBV (fun vs H Q E h => ?_) (fun cdv A outer s H vs Q E hr h => ?_), F.bindsN fun _ _ _ _ _ _ us hl => match us, hl with | [_, _], _ => rfl⟩
  · obtain ⟨x, d, rfl, _⟩ := h; rfl
  obtain ⟨a, y, rfl, ha, q⟩ := h
  refine ⟨_, pss_one (ps_ost (pv 0) (pv 1)), ?_⟩
  exact ⟨_, rfl, _, rfl, a, _, rfl, T.x_BadValue.oex, T.f_BadValue "name" (.head _), .inl ⟨ha, fun dx h1 h2 => q dx h1 h2⟩⟩
theorem ok_iniTM (T : Txt K mg) : ∃ fd, FnOk P w K mg base CX0 1 (He.ma K (He.ga K "TooMany") "__init__") fd ["self", "word"] (spIni (He.ga K "TooMany") "word") ∧ Binds K fd ["self", "word"] [] := by
  obtain ⟨fd, F⟩ := T.i_TooMany
  refine ⟨fd, F.ok scTM (fun vs H Q E h => ?_) (fun cdv A outer s H vs Q E hr h => ?_), F.bindsN fun _ _ _ _ _ _ us hl => match us, hl with | [_, _], _ => rfl⟩
  · obtain ⟨x, d, rfl, _⟩ := h; rfl
  obtain ⟨a, y, rfl, ha, q⟩ := h
  refine ⟨_, pss_one (ps_ost (pv 0) (pv 1)), ?_⟩
  exact ⟨_, rfl, _, rfl, a, _, rfl, T.x_TooMany.oex, T.f_TooMany "word" (.head _), .inl ⟨ha, fun dx h1 h2 => q dx h1 h2⟩⟩
theorem ok_iniBL (T : Txt K mg) : ∃ fd, FnOk P w K mg base CX0 1 (He.ma K (He.ga K "BadLine") "__init__") fd ["self", "index", "word"] (spIni2 (He.ga K "BadLine") "index" "word") ∧ Binds K fd ["self", "index", "word"] [] := by
  obtain ⟨fd, F⟩ := T.i_BadLine
  refine ⟨fd, F.ok scBL (fun vs H Q E h => ?_) (fun cdv A outer s H vs Q E hr h => ?_), F.bindsN fun _ _ _ _ _ _ us hl => match us, hl with | [_, _, _], _ => rfl⟩
  · obtain ⟨x, d, _, rfl, _⟩ := h; rfl
  obtain ⟨a, y, z, rfl, ha, q⟩ := h
  refine ⟨_, pss_cons (ps_ost (pv 0) (pv 1)) (pss_one (ps_ost (pv 0) (pv 2))), ?_⟩
  refine ⟨_, rfl, _, rfl, a, _, rfl, T.x_BadLine.oex, T.f_BadLine "index" (.head _), .inl ⟨ha, fun dx h1 h2 => ?_⟩⟩
  exact ⟨_, rfl, _, rfl, a, _, rfl, T.x_BadLine.oex, T.f_BadLine "word" (.tail _ (.head _)), .inr ⟨dx, [("index", y)], upd_same, by rw [upd_ne h2, upd_same], (by show 1 ≤ 900; decide), q dx h1 h2 _ rfl⟩⟩
theorem sumCast : ∀ rs : List (List PyData), (rs.map fun r => ((r.length : Nat) : Int)).sum = (((rs.map List.length).sum : Nat) : Int)
  | [] => rfl
  | r :: rs => by rw [List.map_cons, List.sum_cons, List.map_cons, List.sum_cons, sumCast rs]; omega
def isLst (d : PyData) : Bool := match d with | .list _ => true | _ => false
/-- rows: refused, or not -/
def spChkR (K : PySem.W.Frag) : Sp := fun vs H Q E => ∃ x d, vs = [x] ∧ Dt H x d ∧ (∀ ds, d = .list ds → ds.length ≤ 100000) ∧ (isLst d = false → Err (He.ga K "BadValue") [("name", .str "rows")] H E) ∧
  ∀ ds, d = .list ds → (∀ i e, ds[i]? = some e → rowD e = false → (∀ j e, j < i → ds[j]? = some e → rowD e = true) → Err (He.ga K "BadLine") [("word", .str "row"), ("index", .int (i : Nat))] H E) ∧ ((∀ e ∈ ds, rowD e = true) → ∀ H2, Ex H H2 → Q .non H2)
abbrev Ncheck_rows : List Str := ["rows", "at"]
theorem sccheck_rows : FnScope Ncheck_rows ["rows"] (defScope (top 23)) := ⟨rfl, rfl, rfl, by decide +kernel, rfl, by decide +kernel, by decide +kernel⟩
theorem ok_chkr (T : Txt K mg) (C_is_row : Cal P w K mg base CX0 4 "is_row" ["value"] (spJ rowD)) : Cal P w K mg base (L2.CX P w) 5 "check_rows" ["rows"] (spChkR K) := by
  obtain ⟨fdBadValue, FBadValue, bBadValue⟩ := ok_iniBV (P := P) (w := w) (base := base) T
  obtain ⟨fdBadLine, FBadLine, bBadLine⟩ := ok_iniBL (P := P) (w := w) (base := base) T
  refine mkCalX T.g_check_rows T.d_check_rows sccheck_rows (fun _ _ _ _ _ _ us hl => match us, hl with | [_], _ => rfl) (fun vs H Q E h => ?_) fun cdv A outer s H vs Q E hr h => ?_
  · obtain ⟨x, d, rfl, _⟩ := h; rfl
  obtain ⟨x, d, rfl, hd, hz, q1, q2⟩ := h
  refine ⟨_, (pss_cons (ps_if (pt_not (pt_val (pe_callB (isiR (K := K)) (by rfl) T.n_isinstance (by decide +kernel) (pa_cons (pv 0) (pa_cons (pe_bltn (v := .ty "list") rfl T.n_list (by decide +kernel) rfl) pa_nil))))) (pss_one (ps_raise rfl (takes_of rfl rfl rfl rfl) (pmk_oex T.x_BadValue.oex T.x_BadValue.ini T.x_BadValue.tyI FBadValue (hr.mono (by decide)) bBadValue .nil pass0 rfl T.g_BadValue (pa_cons pe_str pa_nil)))) pss_nil)
      (pss_one (ps_for (passes_of rfl) rfl (pi_range1 (by rfl) T.n_range (pa_cons (pe_callB (lenL (K := K)) (by rfl) T.n_len PySem.boot_len (pa_cons (pv 0) pa_nil)) pa_nil)) (pg_name (i := 1) sccheck_rows.nd rfl (Or.inl rfl)) (pss_one (ps_if (pt_not (pt_val (pe_cal (E := E0) C_is_row (hr.mono (by decide)) pass0 (pa_cons (pe_ix (ixL (K := K)) (pv 0) (pv 1) (fun _ _ => rfl)) pa_nil)))) (pss_one (ps_raise rfl (takes_of rfl rfl rfl rfl) (pmk_oex T.x_BadLine.oex T.x_BadLine.ini T.x_BadLine.tyI FBadLine (hr.mono (by decide)) bBadLine .nil pass0 rfl T.g_BadLine (pa_cons (pv 1) (pa_cons pe_str pa_nil))))) pss_nil))))), ?_⟩
  refine ⟨_, rfl, x, _, _, _, _, rfl, .ty "list", ty_dt hd, kit_ty (kit_list d), _, rfl, ?_⟩
  cases h1 : isT "list" d with
  | false =>
    refine ite2 (fun _ => ?_) (fun z => absurd rfl z)
    exact ⟨by decide, raises (q1 (by cases d <;> first | rfl | (exfalso; revert h1; simp [isT]))) (Evl.Ex.refl _)⟩
  | true =>
  obtain ⟨ds, rfl⟩ := isT_list h1
  obtain ⟨a, xs, rfl, hs, ha⟩ := dt_list hd
  have hl := dta_len ha
  have hz := hz ds rfl
  obtain ⟨q2, q3⟩ := q2 ds rfl
  refine ite2 (fun z => absurd z (by decide)) (fun _ => ?_)
  refine ⟨_, rfl, a, xs, rfl, .inl (SqL.of hs), _, rfl, by omega, by omega, ?_⟩
  rw [Int.toNat_natCast]
  refine for_it walk_range (fun i σ' H' => ∃ v, σ' = [some (.ref a), v] ∧ Ex H H' ∧ ∀ j e, j < i → ds[j]? = some e → rowD e = true) ⟨none, rfl, Evl.Ex.refl _, fun j e hj => (by omega)⟩ (fun _ _ _ _ _ => trivial) ?_ ?_
  · rintro i v σ' H' H2 hi ⟨v0, rfl, e1, hall⟩ ⟨rfl, rfl⟩
    show gName 1 (V.int (0 + (i : Int))) _ _ _
    rw [Int.zero_add]
    have hx : xs[i]? = some (xs.getD i .non) := by rw [List.getD_eq_getElem?_getD, List.getElem?_eq_getElem hi]; rfl
    obtain ⟨di, hdi, hti⟩ := dta_get ha hx
    refine ⟨_, rfl, _, rfl, a, xs, _, _, rfl, rfl, SqL.of (e1 _ _ hs), at_nat hx, _, di, rfl, ex_dt e1 _ _ hti, fun H3 e3 => ⟨_, rfl, ?_⟩⟩
    cases h2 : rowD di with
    | true => exact ite2 (fun z => absurd z (by decide)) fun _ => ⟨_, rfl, e1.trans e3, fun j e hj he => by
        by_cases z : j = i
        · subst z; rw [hdi] at he; cases he; exact h2
        · exact hall j e (by omega) he⟩
    | false =>
      refine ite2 (fun _ => ?_) (fun z => absurd rfl z)
      exact ⟨_, rfl, by show 2 ≤ 1000; decide, raises2 (q2 i di hdi h2 hall) (e1.trans e3)⟩
  · rintro σ' H2 ⟨v0, rfl, e1, hall⟩
    exact q3 (fun e he => by obtain ⟨j, hj⟩ := List.getElem?_of_mem he; exact hall j e (by have := (List.getElem?_eq_some_iff.mp hj).1; omega) hj) _ e1
/-- sizes -/
def spChkS (K : PySem.W.Frag) : Sp := fun vs H Q E => ∃ a xs, ∃ rs : List (List PyData), vs = [.ref a] ∧ H a = some (.lst xs) ∧ DtAll H xs (rs.map PyData.tuple) ∧ rs.length ≤ 100000 ∧ (400 < rs.length → Err (He.ga K "TooMany") [("word", .str "lines")] H E) ∧
  (rs.length ≤ 400 → 2000 < (rs.map List.length).sum → Err (He.ga K "TooMany") [("word", .str "literals")] H E) ∧ (rs.length ≤ 400 → (rs.map List.length).sum ≤ 2000 → ∀ H2, Ex H H2 → Q .non H2)
abbrev Ncheck_size : List Str := ["rows", "row"]
theorem sccheck_size : FnScope Ncheck_size ["rows"] (defScope (top 24)) := ⟨rfl, rfl, rfl, by decide +kernel, rfl, by decide +kernel, by decide +kernel⟩
theorem ok_chks (T : Txt K mg) : Cal P w K mg base (L2.CX P w) 3 "check_size" ["rows"] (spChkS K) := by
  obtain ⟨fdTooMany, FTooMany, bTooMany⟩ := ok_iniTM (P := P) (w := w) (base := base) T
  refine mkCalX T.g_check_size T.d_check_size sccheck_size (fun _ _ _ _ _ _ us hl => match us, hl with | [_], _ => rfl) (fun vs H Q E h => ?_) fun cdv A outer s H vs Q E hr h => ?_
  · obtain ⟨x, _, d, rfl, _⟩ := h; rfl
  obtain ⟨a, xs, rs, rfl, hs, ha, hz, q1, q2, q3⟩ := h
  refine ⟨_, (pss_cons (ps_if (pt_cmpR op_gt (pe_callB (lenL (K := K)) (by rfl) T.n_len PySem.boot_len (pa_cons (pv 0) pa_nil)) (pe_glob (v := .int 400) rfl T.c_MOST_ROWS.choose_spec ⟨_, rfl⟩) (nomark _)) (pss_one (ps_raise rfl (takes_of rfl rfl rfl rfl) (pmk_oex T.x_TooMany.oex T.x_TooMany.ini T.x_TooMany.tyI FTooMany (hr.mono (by decide)) bTooMany .nil pass0 rfl T.g_TooMany (pa_cons pe_str pa_nil)))) pss_nil)
      (pss_one (ps_if (pt_cmpR op_gt (pe_callB (sumR (K := K) rfl) (by rfl) T.n_sum (by decide +kernel) (pa_cons (pe_lc (own := [("row", 1)]) (g := gName 1) rfl sccheck_size.nd (piL (K := K) (pv 0)) (blkOk_by (N := Ncheck_size) (sc := defScope (top 24)) (by decide +kernel)) (fun _ _ _ _ _ => (pg_name (i := 1) sccheck_size.nd rfl (Or.inl rfl))) (fun _ _ _ _ _ => pts_nil) (fun _ _ _ _ _ => (pe_callB (lenL (K := K)) (by rfl) T.n_len PySem.boot_len (pa_cons (pv 1) pa_nil)))) pa_nil)) (pe_glob (v := .int 2000) rfl T.c_MOST_LITERALS.choose_spec ⟨_, rfl⟩) (nomark _)) (pss_one (ps_raise rfl (takes_of rfl rfl rfl rfl) (pmk_oex T.x_TooMany.oex T.x_TooMany.ini T.x_TooMany.tyI FTooMany (hr.mono (by decide)) bTooMany .nil pass0 rfl T.g_TooMany (pa_cons pe_str pa_nil)))) pss_nil))), ?_⟩
  have hl := dta_len ha
  rw [List.length_map] at hl
  refine ⟨_, rfl, a, xs, rfl, .inl (SqL.of hs), _, 400, rfl, rfl, _, rfl, ?_⟩
  refine ite2 (fun z => ?_) (fun z => ?_)
  · have z := of_decide_eq_true z
    exact ⟨by decide, raises (q1 (by omega)) (Evl.Ex.refl _)⟩
  have z : rs.length ≤ 400 := by
    apply Classical.byContradiction
    intro h; exact z (decide_eq_true (by omega))
  refine ⟨_, rfl, a, rfl, ⟨xs, SqL.of hs⟩, fun D hD => ?_⟩
  refine lcF (K := K) walk_list (fun H' e => SqL.of (e _ _ hs)) (by omega) (fun _ => true) (fun i => .int (((rs.getD i []).length : Nat) : Int)) (fun i => [some (.ref a), some (xs.getD i .non)])
    (fun i u G' H' H'' hi a' yy Q q => turn_name (σ0 := [some (.ref a), none]) (j := 1) a' yy (by rw [List.getD_eq_getElem?_getD]; simp [hi]) q) (fun _ _ => rfl) (fun i H' hi e Q q => q H' (Evl.Ex.refl _)) (fun i H' hi _ e Q q => ?_) hD (fun H' e hq hq2 => ?_)
  · have hx : xs[i]? = some (xs.getD i .non) := by rw [List.getD_eq_getElem?_getD, List.getElem?_eq_getElem hi]; rfl
    obtain ⟨di, hdi, hti⟩ := dta_get ha hx
    rw [List.getElem?_map] at hdi
    obtain ⟨r, hr1, hr2⟩ := Option.map_eq_some_iff.mp hdi
    subst hr2
    obtain ⟨b, ys, e1, e2, e3⟩ := dt_tup hti
    have hyl := dta_len e3
    refine ⟨_, rfl, b, ys, by rw [e1], .inr (SqT.of (e _ _ e2)), ?_⟩
    have : rs.getD i [] = r := by rw [List.getD_eq_getElem?_getD, hr1]; rfl
    rw [hyl, ← this]
    exact q H' (Evl.Ex.refl _)
  · have hns : ((List.range xs.length).filter fun _ => true).map (fun i => V.int (((rs.getD i []).length : Nat) : Int)) = (rs.map fun r => ((r.length : Nat) : Int)).map V.int := by
      rw [List.filter_eq_self.mpr fun _ _ => rfl, hl, List.map_map]
      exact range_map rs [] (fun r => V.int ((r.length : Nat) : Int))
    have hsum := sumCast rs
    rw [hns] at hq
    refine ⟨D, _, rfl, hq, _, 2000, rfl, rfl, _, rfl, ?_⟩
    rw [hsum]
    refine ite2 (fun z2 => ?_) (fun z2 => ?_)
    · have z2 := of_decide_eq_true z2
      exact ⟨by decide, raises (q2 z (by omega)) e⟩
    · exact q3 z (by apply Classical.byContradiction; intro h; exact z2 (decide_eq_true (by omega))) _ e
def spChkL (K : PySem.W.Frag) : Sp := fun vs H Q E => ∃ x d, vs = [x] ∧ Dt H x d ∧ (∀ ds, d = .list ds → ds.length ≤ 100000) ∧ (litsD d = false → Err (He.ga K "BadValue") [("name", .str "literals")] H E) ∧ (litsD d = true → ∀ H2, Ex H H2 → Q .non H2)
abbrev Ncheck_literals : List Str := ["literals"]
theorem sccheck_literals : FnScope Ncheck_literals ["literals"] (defScope (top 25)) := ⟨rfl, rfl, rfl, by decide +kernel, rfl, by decide +kernel, by decide +kernel⟩
theorem ok_chkl (T : Txt K mg) (C_are_literals : Cal P w K mg base CX0 4 "are_literals" ["value"] (spJl litsD)) : Cal P w K mg base (L2.CX P w) 5 "check_literals" ["literals"] (spChkL K) := by
  obtain ⟨fdBadValue, FBadValue, bBadValue⟩ := ok_iniBV (P := P) (w := w) (base := base) T
  refine mkCalX T.g_check_literals T.d_check_literals sccheck_literals (fun _ _ _ _ _ _ us hl => match us, hl with | [_], _ => rfl) (fun vs H Q E h => ?_) fun cdv A outer s H vs Q E hr h => ?_
  · obtain ⟨x, d, rfl, _⟩ := h; rfl
  obtain ⟨x, d, rfl, hd, hz, q1, q2⟩ := h
  refine ⟨_, (pss_one (ps_if (pt_not (pt_val (pe_cal (E := E0) C_are_literals (hr.mono (by decide)) pass0 (pa_cons (pv 0) pa_nil)))) (pss_one (ps_raise rfl (takes_of rfl rfl rfl rfl) (pmk_oex T.x_BadValue.oex T.x_BadValue.ini T.x_BadValue.tyI FBadValue (hr.mono (by decide)) bBadValue .nil pass0 rfl T.g_BadValue (pa_cons pe_str pa_nil)))) pss_nil)), ?_⟩
  refine ⟨_, rfl, x, d, rfl, hd, hz, fun H2 e => ⟨_, rfl, ?_⟩⟩
  cases hb : litsD d with
  | true => exact ite2 (fun z => absurd z (by decide)) fun _ => q2 hb H2 e
  | false => exact ite2 (fun _ => ⟨by decide, raises (q1 hb) e⟩) fun z => absurd rfl z
end
end K21
namespace K21
open PySem PySem.Spec PyProof.Rows L2 Hx Hd
open Evl (pss_cut tCut ex_l ex_t)
open M21
theorem pe_dnewNP {X : Cx} {P : Program} {w : World} {pos : Pos} (h1 : X.prog = P := by rfl) (h2 : X.w = w := by rfl) : PE X (.Dict [] [] pos) (tDNewN P w) := by subst h1 h2; exact pe_dnewN
theorem ini_step {H : Hp} {p tr : Addr} {o u u' : HO} (hp : H p = none) (h : H tr = some u) : But tr H (upd (upd H p o) tr u') ∧ (upd (upd H p o) tr u') p = some o ∧ (upd (upd H p o) tr u') tr = some u' ∧ p ≠ tr := by
  have n : p ≠ tr := fun z => by rw [← z, hp] at h; cases h
  exact ⟨fun c u n2 hc => by rw [upd_ne n2, upd_ne (ne_of_none hc hp)]; exact hc, by rw [upd_ne n, upd_same], upd_same, n⟩
theorem But.none {a : Addr} {H H' : Hp} {p : Addr} (h : H' p = none) (b : But a H H') (n : p ≠ a) : H p = none := by
  cases e : H p with
  | none => rfl
  | some o => rw [b p o n e] at h; cases h
section
variable {P : Program} {w : World} {K : PySem.W.Frag} {mg : Str → Option Value} {base : Heap}
def spInit (P : Program) (w : World) (K : PySem.W.Frag) : Sp := fun vs H Q _ => ∃ (G : Hp) (tr dx : Addr) (v : V) (rows : Rws), vs = [.ref tr, v] ∧ Ex G H ∧ G tr = none ∧ H tr = some (.ins (He.ga K "Trail") dx []) ∧ Dt G v (.list (rows.map PyData.tuple)) ∧ (∀ r ∈ rows, rowD (.tuple r) = true) ∧
  (rows.map List.length).sum ≤ 50000 ∧ rows.length ≤ 50000 ∧ ∀ t H2, t.tr = tr → TO P w K G H2 t rows [] [] → Q .non H2
abbrev NTrail___init__ : List Str := ["self", "rows", "row"]
theorem scTrail___init__ : FnScope NTrail___init__ ["self", "rows"] (defScope (inClass (top 27) 0)) := ⟨rfl, rfl, rfl, by decide +kernel, rfl, by decide +kernel, by decide +kernel⟩
theorem ok_init (T : Txt K mg) (M_Trail_enter : CalM P w K mg base CX0 2 "Trail" "enter" ["self", "row"] (spEnter P w K)) : CalM P w K mg base CX0 3 "Trail" "__init__" ["self", "rows"] (spInit P w K) := by
  refine mkCalM T.k_Trail T.e_Trail___init__ T.d_Trail___init__ scTrail___init__ (fun _ _ _ _ _ _ us hl => match us, hl with | [_, _], _ => rfl) (fun vs H Q E h => ?_) fun cdv A outer s H vs Q E hr h => ?_
  · obtain ⟨_, _, _, _, _, rfl, _⟩ := h; rfl
  obtain ⟨G, tr, dx, v, rows, rfl, ge0, gtr, f0, hd, rk, z1, z2, q⟩ := h
  refine ⟨_, (pss_cons (ps_fl T.k_Trail T.a_Trail_rows (pv 0) (pe_lst pa_nil))
      (pss_cons (ps_fl T.k_Trail T.a_Trail_known (pv 0) (pe_dnewNP (P := P) (w := w)))
      (pss_cons (ps_fl T.k_Trail T.a_Trail_atoms (pv 0) (pe_dnewNP (P := P) (w := w)))
      (pss_cons (ps_fl T.k_Trail T.a_Trail_holders (pv 0) (pe_dnewNP (P := P) (w := w)))
      (pss_cons (ps_fl T.k_Trail T.a_Trail_entries (pv 0) (pe_lst pa_nil))
      (pss_cons (ps_fl T.k_Trail T.a_Trail_heights (pv 0) (pe_dnewNP (P := P) (w := w)))
      (pss_cons (ps_fl T.k_Trail T.a_Trail_height (pv 0) pe_int)
      (pss_cons (ps_fl T.k_Trail T.a_Trail_met (pv 0) (pe_lst pa_nil))
      (pss_cons (ps_fl T.k_Trail T.a_Trail_left (pv 0) (pe_lst pa_nil))
      (pss_cons (ps_fl T.k_Trail T.a_Trail_broken (pv 0) pe_dnewK)
      (pss_cons (ps_fl T.k_Trail T.a_Trail_going (pv 0) pe_dnewK)
      (pss_one (ps_for PassesOwn.never rfl (piL (K := K) (pv 1)) (pg_name (i := 2) scTrail___init__.nd rfl (Or.inl rfl)) (pss_one (ps_expr (pe_mth (E := E0) M_Trail_enter (pv 0) (hr.mono (by decide)) pass0 (pa_cons (pv 2) pa_nil))))))))))))))))), ?_⟩
  refine ⟨szl 0 (by omega), fun p1 hp1 => ?_⟩
  refine ⟨_, rfl, tr, dx, _, rfl, (upd_ne (Ne.symm (fun z : p1 = tr => by rw [z, f0] at hp1; cases hp1))).trans f0, by show 0 < 1000; decide, ?_⟩
  obtain ⟨b1, op1, f1, np1⟩ := ini_step (o := .lst []) (u' := .ins (He.ga K "Trail") dx [("rows", .ref p1)]) hp1 f0
  rw [show putF ("rows" : Str) (V.ref p1) ([] : List (Str × V)) = ([("rows", .ref p1)] : List (Str × V)) from rfl]
  generalize upd (upd H p1 (.lst [])) tr (.ins (He.ga K "Trail") dx [("rows", .ref p1)]) = H1 at b1 op1 f1
  have ge1 : Ex G H1 := fun c o hc => b1 c o (fun z => by rw [z, gtr] at hc; cases hc) (ge0 c o hc)
  have gp1 : G p1 = none := Evl.fresh_back ge0 hp1
  refine fun p2 hp2 => ?_
  refine ⟨_, rfl, tr, dx, _, rfl, (upd_ne (Ne.symm (fun z : p2 = tr => by rw [z, f1] at hp2; cases hp2))).trans f1, by show 1 < 1000; decide, ?_⟩
  obtain ⟨b2, op2, f2, np2⟩ := ini_step (o := DNo P w p2 [] []) (u' := .ins (He.ga K "Trail") dx [("rows", .ref p1), ("known", .ref p2)]) hp2 f1
  rw [show putF ("known" : Str) (V.ref p2) ([("rows", .ref p1)] : List (Str × V)) = ([("rows", .ref p1), ("known", .ref p2)] : List (Str × V)) from rfl]
  generalize upd (upd H1 p2 (DNo P w p2 [] [])) tr (.ins (He.ga K "Trail") dx [("rows", .ref p1), ("known", .ref p2)]) = H2 at b2 op2 f2
  have ge2 : Ex G H2 := fun c o hc => b2 c o (fun z => by rw [z, gtr] at hc; cases hc) (ge1 c o hc)
  have gp2 : G p2 = none := Evl.fresh_back ge1 hp2
  have mp1_2 : p1 ≠ p2 := ne_of_none op1 hp2
  replace op1 := b2 _ _ np1 op1
  refine fun p3 hp3 => ?_
  refine ⟨_, rfl, tr, dx, _, rfl, (upd_ne (Ne.symm (fun z : p3 = tr => by rw [z, f2] at hp3; cases hp3))).trans f2, by show 2 < 1000; decide, ?_⟩
  obtain ⟨b3, op3, f3, np3⟩ := ini_step (o := DNo P w p3 [] []) (u' := .ins (He.ga K "Trail") dx [("rows", .ref p1), ("known", .ref p2), ("atoms", .ref p3)]) hp3 f2
  rw [show putF ("atoms" : Str) (V.ref p3) ([("rows", .ref p1), ("known", .ref p2)] : List (Str × V)) = ([("rows", .ref p1), ("known", .ref p2), ("atoms", .ref p3)] : List (Str × V)) from rfl]
  generalize upd (upd H2 p3 (DNo P w p3 [] [])) tr (.ins (He.ga K "Trail") dx [("rows", .ref p1), ("known", .ref p2), ("atoms", .ref p3)]) = H3 at b3 op3 f3
  have ge3 : Ex G H3 := fun c o hc => b3 c o (fun z => by rw [z, gtr] at hc; cases hc) (ge2 c o hc)
  have gp3 : G p3 = none := Evl.fresh_back ge2 hp3
  have mp1_3 : p1 ≠ p3 := ne_of_none op1 hp3
  replace op1 := b3 _ _ np1 op1
  have mp2_3 : p2 ≠ p3 := ne_of_none op2 hp3
  replace op2 := b3 _ _ np2 op2
  refine fun p4 hp4 => ?_
  refine ⟨_, rfl, tr, dx, _, rfl, (upd_ne (Ne.symm (fun z : p4 = tr => by rw [z, f3] at hp4; cases hp4))).trans f3, by show 3 < 1000; decide, ?_⟩
  obtain ⟨b4, op4, f4, np4⟩ := ini_step (o := DNo P w p4 [] []) (u' := .ins (He.ga K "Trail") dx [("rows", .ref p1), ("known", .ref p2), ("atoms", .ref p3), ("holders", .ref p4)]) hp4 f3
  rw [show putF ("holders" : Str) (V.ref p4) ([("rows", .ref p1), ("known", .ref p2), ("atoms", .ref p3)] : List (Str × V)) = ([("rows", .ref p1), ("known", .ref p2), ("atoms", .ref p3), ("holders", .ref p4)] : List (Str × V)) from rfl]
  generalize upd (upd H3 p4 (DNo P w p4 [] [])) tr (.ins (He.ga K "Trail") dx [("rows", .ref p1), ("known", .ref p2), ("atoms", .ref p3), ("holders", .ref p4)]) = H4 at b4 op4 f4
  have ge4 : Ex G H4 := fun c o hc => b4 c o (fun z => by rw [z, gtr] at hc; cases hc) (ge3 c o hc)
  have gp4 : G p4 = none := Evl.fresh_back ge3 hp4
  have mp1_4 : p1 ≠ p4 := ne_of_none op1 hp4
  replace op1 := b4 _ _ np1 op1
  have mp2_4 : p2 ≠ p4 := ne_of_none op2 hp4
  replace op2 := b4 _ _ np2 op2
  have mp3_4 : p3 ≠ p4 := ne_of_none op3 hp4
  replace op3 := b4 _ _ np3 op3
  refine ⟨szl 0 (by omega), fun p5 hp5 => ?_⟩
  refine ⟨_, rfl, tr, dx, _, rfl, (upd_ne (Ne.symm (fun z : p5 = tr => by rw [z, f4] at hp5; cases hp5))).trans f4, by show 4 < 1000; decide, ?_⟩
  obtain ⟨b5, op5, f5, np5⟩ := ini_step (o := .lst []) (u' := .ins (He.ga K "Trail") dx [("rows", .ref p1), ("known", .ref p2), ("atoms", .ref p3), ("holders", .ref p4), ("entries", .ref p5)]) hp5 f4
  rw [show putF ("entries" : Str) (V.ref p5) ([("rows", .ref p1), ("known", .ref p2), ("atoms", .ref p3), ("holders", .ref p4)] : List (Str × V)) = ([("rows", .ref p1), ("known", .ref p2), ("atoms", .ref p3), ("holders", .ref p4), ("entries", .ref p5)] : List (Str × V)) from rfl]
  generalize upd (upd H4 p5 (.lst [])) tr (.ins (He.ga K "Trail") dx [("rows", .ref p1), ("known", .ref p2), ("atoms", .ref p3), ("holders", .ref p4), ("entries", .ref p5)]) = H5 at b5 op5 f5
  have ge5 : Ex G H5 := fun c o hc => b5 c o (fun z => by rw [z, gtr] at hc; cases hc) (ge4 c o hc)
  have gp5 : G p5 = none := Evl.fresh_back ge4 hp5
  have mp1_5 : p1 ≠ p5 := ne_of_none op1 hp5
  replace op1 := b5 _ _ np1 op1
  have mp2_5 : p2 ≠ p5 := ne_of_none op2 hp5
  replace op2 := b5 _ _ np2 op2
  have mp3_5 : p3 ≠ p5 := ne_of_none op3 hp5
  replace op3 := b5 _ _ np3 op3
  have mp4_5 : p4 ≠ p5 := ne_of_none op4 hp5
  replace op4 := b5 _ _ np4 op4
  refine fun p6 hp6 => ?_
  refine ⟨_, rfl, tr, dx, _, rfl, (upd_ne (Ne.symm (fun z : p6 = tr => by rw [z, f5] at hp6; cases hp6))).trans f5, by show 5 < 1000; decide, ?_⟩
  obtain ⟨b6, op6, f6, np6⟩ := ini_step (o := DNo P w p6 [] []) (u' := .ins (He.ga K "Trail") dx [("rows", .ref p1), ("known", .ref p2), ("atoms", .ref p3), ("holders", .ref p4), ("entries", .ref p5), ("heights", .ref p6)]) hp6 f5
  rw [show putF ("heights" : Str) (V.ref p6) ([("rows", .ref p1), ("known", .ref p2), ("atoms", .ref p3), ("holders", .ref p4), ("entries", .ref p5)] : List (Str × V)) = ([("rows", .ref p1), ("known", .ref p2), ("atoms", .ref p3), ("holders", .ref p4), ("entries", .ref p5), ("heights", .ref p6)] : List (Str × V)) from rfl]
  generalize upd (upd H5 p6 (DNo P w p6 [] [])) tr (.ins (He.ga K "Trail") dx [("rows", .ref p1), ("known", .ref p2), ("atoms", .ref p3), ("holders", .ref p4), ("entries", .ref p5), ("heights", .ref p6)]) = H6 at b6 op6 f6
  have ge6 : Ex G H6 := fun c o hc => b6 c o (fun z => by rw [z, gtr] at hc; cases hc) (ge5 c o hc)
  have gp6 : G p6 = none := Evl.fresh_back ge5 hp6
  have mp1_6 : p1 ≠ p6 := ne_of_none op1 hp6
  replace op1 := b6 _ _ np1 op1
  have mp2_6 : p2 ≠ p6 := ne_of_none op2 hp6
  replace op2 := b6 _ _ np2 op2
  have mp3_6 : p3 ≠ p6 := ne_of_none op3 hp6
  replace op3 := b6 _ _ np3 op3
  have mp4_6 : p4 ≠ p6 := ne_of_none op4 hp6
  replace op4 := b6 _ _ np4 op4
  have mp5_6 : p5 ≠ p6 := ne_of_none op5 hp6
  replace op5 := b6 _ _ np5 op5
  refine ⟨_, rfl, tr, dx, _, rfl, f6, by show 6 < 1000; decide, ?_⟩
  have b7 : But tr H6 (upd H6 tr (.ins (He.ga K "Trail") dx [("rows", .ref p1), ("known", .ref p2), ("atoms", .ref p3), ("holders", .ref p4), ("entries", .ref p5), ("heights", .ref p6), ("height", .int 0)])) := But.put
  have f7 : upd H6 tr (.ins (He.ga K "Trail") dx [("rows", .ref p1), ("known", .ref p2), ("atoms", .ref p3), ("holders", .ref p4), ("entries", .ref p5), ("heights", .ref p6), ("height", .int 0)]) tr = some (.ins (He.ga K "Trail") dx [("rows", .ref p1), ("known", .ref p2), ("atoms", .ref p3), ("holders", .ref p4), ("entries", .ref p5), ("heights", .ref p6), ("height", .int 0)]) := upd_same
  rw [show putF ("height" : Str) (V.int 0) ([("rows", .ref p1), ("known", .ref p2), ("atoms", .ref p3), ("holders", .ref p4), ("entries", .ref p5), ("heights", .ref p6)] : List (Str × V)) = ([("rows", .ref p1), ("known", .ref p2), ("atoms", .ref p3), ("holders", .ref p4), ("entries", .ref p5), ("heights", .ref p6), ("height", .int 0)] : List (Str × V)) from rfl]
  generalize upd H6 tr (.ins (He.ga K "Trail") dx [("rows", .ref p1), ("known", .ref p2), ("atoms", .ref p3), ("holders", .ref p4), ("entries", .ref p5), ("heights", .ref p6), ("height", .int 0)]) = H7 at b7 f7
  have ge7 : Ex G H7 := fun c o hc => b7 c o (fun z => by rw [z, gtr] at hc; cases hc) (ge6 c o hc)
  replace op1 := b7 _ _ np1 op1
  replace op2 := b7 _ _ np2 op2
  replace op3 := b7 _ _ np3 op3
  replace op4 := b7 _ _ np4 op4
  replace op5 := b7 _ _ np5 op5
  replace op6 := b7 _ _ np6 op6
  refine ⟨szl 0 (by omega), fun p7 hp7 => ?_⟩
  refine ⟨_, rfl, tr, dx, _, rfl, (upd_ne (Ne.symm (fun z : p7 = tr => by rw [z, f7] at hp7; cases hp7))).trans f7, by show 7 < 1000; decide, ?_⟩
  obtain ⟨b8, op7, f8, np7⟩ := ini_step (o := .lst []) (u' := .ins (He.ga K "Trail") dx [("rows", .ref p1), ("known", .ref p2), ("atoms", .ref p3), ("holders", .ref p4), ("entries", .ref p5), ("heights", .ref p6), ("height", .int 0), ("met", .ref p7)]) hp7 f7
  rw [show putF ("met" : Str) (V.ref p7) ([("rows", .ref p1), ("known", .ref p2), ("atoms", .ref p3), ("holders", .ref p4), ("entries", .ref p5), ("heights", .ref p6), ("height", .int 0)] : List (Str × V)) = ([("rows", .ref p1), ("known", .ref p2), ("atoms", .ref p3), ("holders", .ref p4), ("entries", .ref p5), ("heights", .ref p6), ("height", .int 0), ("met", .ref p7)] : List (Str × V)) from rfl]
  generalize upd (upd H7 p7 (.lst [])) tr (.ins (He.ga K "Trail") dx [("rows", .ref p1), ("known", .ref p2), ("atoms", .ref p3), ("holders", .ref p4), ("entries", .ref p5), ("heights", .ref p6), ("height", .int 0), ("met", .ref p7)]) = H8 at b8 op7 f8
  have ge8 : Ex G H8 := fun c o hc => b8 c o (fun z => by rw [z, gtr] at hc; cases hc) (ge7 c o hc)
  have gp7 : G p7 = none := Evl.fresh_back ge7 hp7
  have mp1_8 : p1 ≠ p7 := ne_of_none op1 hp7
  replace op1 := b8 _ _ np1 op1
  have mp2_8 : p2 ≠ p7 := ne_of_none op2 hp7
  replace op2 := b8 _ _ np2 op2
  have mp3_8 : p3 ≠ p7 := ne_of_none op3 hp7
  replace op3 := b8 _ _ np3 op3
  have mp4_8 : p4 ≠ p7 := ne_of_none op4 hp7
  replace op4 := b8 _ _ np4 op4
  have mp5_8 : p5 ≠ p7 := ne_of_none op5 hp7
  replace op5 := b8 _ _ np5 op5
  have mp6_8 : p6 ≠ p7 := ne_of_none op6 hp7
  replace op6 := b8 _ _ np6 op6
  refine ⟨szl 0 (by omega), fun p8 hp8 => ?_⟩
  refine ⟨_, rfl, tr, dx, _, rfl, (upd_ne (Ne.symm (fun z : p8 = tr => by rw [z, f8] at hp8; cases hp8))).trans f8, by show 8 < 1000; decide, ?_⟩
  obtain ⟨b9, op8, f9, np8⟩ := ini_step (o := .lst []) (u' := .ins (He.ga K "Trail") dx [("rows", .ref p1), ("known", .ref p2), ("atoms", .ref p3), ("holders", .ref p4), ("entries", .ref p5), ("heights", .ref p6), ("height", .int 0), ("met", .ref p7), ("left", .ref p8)]) hp8 f8
  rw [show putF ("left" : Str) (V.ref p8) ([("rows", .ref p1), ("known", .ref p2), ("atoms", .ref p3), ("holders", .ref p4), ("entries", .ref p5), ("heights", .ref p6), ("height", .int 0), ("met", .ref p7)] : List (Str × V)) = ([("rows", .ref p1), ("known", .ref p2), ("atoms", .ref p3), ("holders", .ref p4), ("entries", .ref p5), ("heights", .ref p6), ("height", .int 0), ("met", .ref p7), ("left", .ref p8)] : List (Str × V)) from rfl]
  generalize upd (upd H8 p8 (.lst [])) tr (.ins (He.ga K "Trail") dx [("rows", .ref p1), ("known", .ref p2), ("atoms", .ref p3), ("holders", .ref p4), ("entries", .ref p5), ("heights", .ref p6), ("height", .int 0), ("met", .ref p7), ("left", .ref p8)]) = H9 at b9 op8 f9
  have ge9 : Ex G H9 := fun c o hc => b9 c o (fun z => by rw [z, gtr] at hc; cases hc) (ge8 c o hc)
  have gp8 : G p8 = none := Evl.fresh_back ge8 hp8
  have mp1_9 : p1 ≠ p8 := ne_of_none op1 hp8
  replace op1 := b9 _ _ np1 op1
  have mp2_9 : p2 ≠ p8 := ne_of_none op2 hp8
  replace op2 := b9 _ _ np2 op2
  have mp3_9 : p3 ≠ p8 := ne_of_none op3 hp8
  replace op3 := b9 _ _ np3 op3
  have mp4_9 : p4 ≠ p8 := ne_of_none op4 hp8
  replace op4 := b9 _ _ np4 op4
  have mp5_9 : p5 ≠ p8 := ne_of_none op5 hp8
  replace op5 := b9 _ _ np5 op5
  have mp6_9 : p6 ≠ p8 := ne_of_none op6 hp8
  replace op6 := b9 _ _ np6 op6
  have mp7_9 : p7 ≠ p8 := ne_of_none op7 hp8
  replace op7 := b9 _ _ np7 op7
  refine fun p9 hp9 => ?_
  refine ⟨_, rfl, tr, dx, _, rfl, (upd_ne (Ne.symm (fun z : p9 = tr => by rw [z, f9] at hp9; cases hp9))).trans f9, by show 9 < 1000; decide, ?_⟩
  obtain ⟨b10, op9, f10, np9⟩ := ini_step (o := .dK []) (u' := .ins (He.ga K "Trail") dx [("rows", .ref p1), ("known", .ref p2), ("atoms", .ref p3), ("holders", .ref p4), ("entries", .ref p5), ("heights", .ref p6), ("height", .int 0), ("met", .ref p7), ("left", .ref p8), ("broken", .ref p9)]) hp9 f9
  rw [show putF ("broken" : Str) (V.ref p9) ([("rows", .ref p1), ("known", .ref p2), ("atoms", .ref p3), ("holders", .ref p4), ("entries", .ref p5), ("heights", .ref p6), ("height", .int 0), ("met", .ref p7), ("left", .ref p8)] : List (Str × V)) = ([("rows", .ref p1), ("known", .ref p2), ("atoms", .ref p3), ("holders", .ref p4), ("entries", .ref p5), ("heights", .ref p6), ("height", .int 0), ("met", .ref p7), ("left", .ref p8), ("broken", .ref p9)] : List (Str × V)) from rfl]
  generalize upd (upd H9 p9 (.dK [])) tr (.ins (He.ga K "Trail") dx [("rows", .ref p1), ("known", .ref p2), ("atoms", .ref p3), ("holders", .ref p4), ("entries", .ref p5), ("heights", .ref p6), ("height", .int 0), ("met", .ref p7), ("left", .ref p8), ("broken", .ref p9)]) = H10 at b10 op9 f10
  have ge10 : Ex G H10 := fun c o hc => b10 c o (fun z => by rw [z, gtr] at hc; cases hc) (ge9 c o hc)
  have gp9 : G p9 = none := Evl.fresh_back ge9 hp9
  have mp1_10 : p1 ≠ p9 := ne_of_none op1 hp9
  replace op1 := b10 _ _ np1 op1
  have mp2_10 : p2 ≠ p9 := ne_of_none op2 hp9
  replace op2 := b10 _ _ np2 op2
  have mp3_10 : p3 ≠ p9 := ne_of_none op3 hp9
  replace op3 := b10 _ _ np3 op3
  have mp4_10 : p4 ≠ p9 := ne_of_none op4 hp9
  replace op4 := b10 _ _ np4 op4
  have mp5_10 : p5 ≠ p9 := ne_of_none op5 hp9
  replace op5 := b10 _ _ np5 op5
  have mp6_10 : p6 ≠ p9 := ne_of_none op6 hp9
  replace op6 := b10 _ _ np6 op6
  have mp7_10 : p7 ≠ p9 := ne_of_none op7 hp9
  replace op7 := b10 _ _ np7 op7
  have mp8_10 : p8 ≠ p9 := ne_of_none op8 hp9
  replace op8 := b10 _ _ np8 op8
  refine fun p10 hp10 => ?_
  refine ⟨_, rfl, tr, dx, _, rfl, (upd_ne (Ne.symm (fun z : p10 = tr => by rw [z, f10] at hp10; cases hp10))).trans f10, by show 10 < 1000; decide, ?_⟩
  obtain ⟨b11, op10, f11, np10⟩ := ini_step (o := .dK []) (u' := .ins (He.ga K "Trail") dx [("rows", .ref p1), ("known", .ref p2), ("atoms", .ref p3), ("holders", .ref p4), ("entries", .ref p5), ("heights", .ref p6), ("height", .int 0), ("met", .ref p7), ("left", .ref p8), ("broken", .ref p9), ("going", .ref p10)]) hp10 f10
  rw [show putF ("going" : Str) (V.ref p10) ([("rows", .ref p1), ("known", .ref p2), ("atoms", .ref p3), ("holders", .ref p4), ("entries", .ref p5), ("heights", .ref p6), ("height", .int 0), ("met", .ref p7), ("left", .ref p8), ("broken", .ref p9)] : List (Str × V)) = ([("rows", .ref p1), ("known", .ref p2), ("atoms", .ref p3), ("holders", .ref p4), ("entries", .ref p5), ("heights", .ref p6), ("height", .int 0), ("met", .ref p7), ("left", .ref p8), ("broken", .ref p9), ("going", .ref p10)] : List (Str × V)) from rfl]
  generalize upd (upd H10 p10 (.dK [])) tr (.ins (He.ga K "Trail") dx [("rows", .ref p1), ("known", .ref p2), ("atoms", .ref p3), ("holders", .ref p4), ("entries", .ref p5), ("heights", .ref p6), ("height", .int 0), ("met", .ref p7), ("left", .ref p8), ("broken", .ref p9), ("going", .ref p10)]) = H11 at b11 op10 f11
  have ge11 : Ex G H11 := fun c o hc => b11 c o (fun z => by rw [z, gtr] at hc; cases hc) (ge10 c o hc)
  have gp10 : G p10 = none := Evl.fresh_back ge10 hp10
  have mp1_11 : p1 ≠ p10 := ne_of_none op1 hp10
  replace op1 := b11 _ _ np1 op1
  have mp2_11 : p2 ≠ p10 := ne_of_none op2 hp10
  replace op2 := b11 _ _ np2 op2
  have mp3_11 : p3 ≠ p10 := ne_of_none op3 hp10
  replace op3 := b11 _ _ np3 op3
  have mp4_11 : p4 ≠ p10 := ne_of_none op4 hp10
  replace op4 := b11 _ _ np4 op4
  have mp5_11 : p5 ≠ p10 := ne_of_none op5 hp10
  replace op5 := b11 _ _ np5 op5
  have mp6_11 : p6 ≠ p10 := ne_of_none op6 hp10
  replace op6 := b11 _ _ np6 op6
  have mp7_11 : p7 ≠ p10 := ne_of_none op7 hp10
  replace op7 := b11 _ _ np7 op7
  have mp8_11 : p8 ≠ p10 := ne_of_none op8 hp10
  replace op8 := b11 _ _ np8 op8
  have mp9_11 : p9 ≠ p10 := ne_of_none op9 hp10
  replace op9 := b11 _ _ np9 op9
  obtain ⟨a, xs, rfl, hs, ha⟩ := dt_list hd
  have hxl := dta_len ha
  rw [List.length_map] at hxl
  have to0 : TO P w K G H11 ⟨tr, dx, p1, p2, p3, p4, p5, p6, p7, p8, p9, p10⟩ [] [] [] := {
    ge := ge11
    gn := fun b hb => by
      simp only [own, List.mem_cons, List.not_mem_nil, or_false] at hb
      rcases hb with rfl | rfl | rfl | rfl | rfl | rfl | rfl | rfl | rfl | rfl | rfl <;> assumption
    fi := f11
    rr := ⟨[], op1, .nil⟩
    kn := ⟨[], ⟨[], op2, .nil⟩, Nat.le_refl _⟩
    ats := ⟨[], ⟨[], op3, .nil⟩, Nat.le_refl _⟩
    ho := ⟨[], ⟨[], op4, .nil⟩, Nat.le_refl _, fun k => .inl ⟨rfl, rfl⟩, (fun k k' b h => by cases h), (fun k b h => by cases h)⟩
    en := ⟨[], op5, .nil⟩
    hs := ⟨[], ⟨[], op6, .nil⟩, Nat.le_refl _, fun k => by simp [valV]⟩
    mt := op7
    lf := op8
    br := ⟨[], [], ⟨[], op9, rfl, .nil⟩, ⟨[], op10, rfl, .nil⟩, rfl, fun n => by simp, fun n => by simp⟩
    nl := by simp only [lists, List.nodup_cons, List.mem_cons, List.not_mem_nil, or_false, not_or, not_false_eq_true, List.nodup_nil, and_true]; exact ⟨⟨mp1_5, mp1_8, mp1_9⟩, ⟨mp5_8, mp5_9⟩, mp7_9⟩
    nb := mp9_11
    nd := by simp only [List.nodup_cons, List.mem_cons, List.not_mem_nil, or_false, not_or, not_false_eq_true, List.nodup_nil, and_true]; exact ⟨⟨mp2_3, mp2_4, mp2_6⟩, ⟨mp3_4, mp3_6⟩, mp4_6⟩
    rk := fun r hr => by cases hr
    z1 := by simp
    z2 := by simp
    z3 := by simp
    z4 := by simp }
  clear f0 f1 f2 f3 f4 f5 f6 f7 f8 f9 f10
  refine ⟨_, rfl, a, rfl, ⟨xs, SqL.of (ge11 _ _ hs)⟩, ?_⟩
  have hsum : ∀ i, ((rows.take i).map List.length).sum ≤ (rows.map List.length).sum := fun i => by
    conv => rhs; rw [← List.take_append_drop i rows, List.map_append, List.sum_append]
    omega
  refine for_it walk_list (fun i σ' H' => ∃ v, σ' = [some (.ref tr), some (.ref a), v] ∧ TO P w K G H' ⟨tr, dx, p1, p2, p3, p4, p5, p6, p7, p8, p9, p10⟩ (rows.take i) [] []) ⟨none, rfl, to0⟩ (fun i σ' H' hi ⟨_, _, to⟩ => SqL.of (to.ge _ _ hs)) ?_ ?_
  · rintro i v σ' H' H2 hi ⟨v0, rfl, to⟩ ⟨rfl, hv⟩
    obtain ⟨di, hdi, hti⟩ := dta_get ha hv
    rw [List.getElem?_map] at hdi
    obtain ⟨row, hrow, rfl⟩ := Option.map_eq_some_iff.mp hdi
    have htk : rows.take (i + 1) = rows.take i ++ [row] := by rw [List.take_succ, hrow]; rfl
    have hs1 := hsum (i + 1)
    rw [htk, List.map_append, List.sum_append] at hs1
    simp only [List.map_cons, List.map_nil, List.sum_cons, List.sum_nil, Nat.add_zero] at hs1
    refine ⟨_, rfl, tr, dx, _, rfl, to.fi, no_enter _, _, rfl, ?_⟩
    refine ⟨G, ⟨tr, dx, p1, p2, p3, p4, p5, p6, p7, p8, p9, p10⟩, v, row, rows.take i, [], [], rfl, to, ex_dt to.ge _ _ hti, rk row (List.mem_of_getElem? hrow), by omega, by rw [List.length_take]; omega, fun H3 tp to2 => ?_⟩
    exact ⟨_, rfl, by rw [htk]; exact to2⟩
  · rintro σ' H2 ⟨v0, rfl, to⟩
    rw [hxl, List.take_length] at to
    exact q _ H2 rfl to
def spGoes (P : Program) (w : World) (K : PySem.W.Frag) : Sp := fun vs H Q _ => ∃ (v1 v2 : V) (rows : Rws) (lits : List PyData), vs = [v1, v2] ∧ Dt H v1 (.list (rows.map PyData.tuple)) ∧ Dt H v2 (.list lits) ∧ (∀ r ∈ rows, rowD (.tuple r) = true) ∧ litsD (.list lits) = true ∧
  (rows.map List.length).sum ≤ 2000 ∧ rows.length ≤ 400 ∧ lits.length ≤ 2000 ∧
  ∀ t H2, TO P w K H H2 t rows (lits ++ (stepsOf rows lits).map (·.1)) (lits.map (fun l => (l, none)) ++ (stepsOf rows lits).map fun p => (p.1, some p.2)) → Q (.ref t.tr) H2
abbrev Ngoes_along : List Str := ["rows", "literals", "trail", "literal", "n"]
theorem scgoes_along : FnScope Ngoes_along ["rows", "literals"] (defScope (top 28)) := ⟨rfl, rfl, rfl, by decide +kernel, rfl, by decide +kernel, by decide +kernel⟩
theorem ok_goes (T : Txt K mg) (M_init : CalM P w K mg base CX0 3 "Trail" "__init__" ["self", "rows"] (spInit P w K)) (M_Trail_stand : CalM P w K mg base CX0 3 "Trail" "stand" ["self", "literal", "why"] (spStand P w K)) (M_Trail_spare : CalM P w K mg base CX0 3 "Trail" "spare" ["self", "n"] (spSpare P w K)) :
    Cal P w K mg base CX0 5 "goes_along" ["rows", "literals"] (spGoes P w K) := by
  obtain ⟨fd_Trail, F_Trail, b_Trail⟩ := M_init.ex
  refine mkCal T.g_goes_along T.d_goes_along scgoes_along (fun _ _ _ _ _ _ us hl => match us, hl with | [_, _], _ => rfl) (fun vs H Q E h => ?_) fun cdv A outer s H vs Q E hr h => ?_
  · obtain ⟨_, _, _, _, rfl, _⟩ := h; rfl
  obtain ⟨v1, v2, rows, lits, rfl, hd1, hd2, rk, hl, z1, z2, z3, q⟩ := h
  refine ⟨_, (pss_cons (ps_set (i := 2) scgoes_along.nd rfl (Or.inl rfl) (pe_make T.m_Trail F_Trail (hr.mono (by decide)) (by rfl) T.g_Trail b_Trail .nil pass0 (pa_cons (pv 0) pa_nil)))
      (pss_cons (ps_for PassesOwn.never rfl (piL (K := K) (pv 1)) (pg_name (i := 3) scgoes_along.nd rfl (Or.inl rfl)) (pss_one (ps_expr (pe_mth (E := E0) M_Trail_stand (pv 2) (hr.mono (by decide)) pass0 (pa_cons (pv 3) (pa_cons pe_non pa_nil))))))
      (pss_cut (ps_while PassesOwn.never (PW.pt (pw_and (pt_cmpR op_eq (pe_callB call_lenK (by rfl) T.n_len PySem.boot_len (pa_cons (pe_fl T.k_Trail T.a_Trail_broken (pv 2)) pa_nil)) pe_int (nomark _)) (pw_and1 (pt_cmpR op_gt (pe_callB call_lenK (by rfl) T.n_len PySem.boot_len (pa_cons (pe_fl T.k_Trail T.a_Trail_going (pv 2)) pa_nil)) pe_int (nomark _))))) (pss_cons (ps_set (i := 4) scgoes_along.nd rfl (Or.inl rfl) (pe_callB (cr_minK rfl) (by rfl) T.n_min (by decide +kernel) (pa_cons (pe_fl T.k_Trail T.a_Trail_going (pv 2)) pa_nil)))
      (pss_one (ps_expr (pe_mth (E := E0) M_Trail_stand (pv 2) (hr.mono (by decide)) pass0 (pa_cons (pe_mth (E := E0) M_Trail_spare (pv 2) (hr.mono (by decide)) pass0 (pa_cons (pv 4) pa_nil)) (pa_cons (pv 4) pa_nil)))))))
      (pss_one (ps_ret (pv 2)))))), ?_⟩
  refine ⟨_, rfl, fun x dx hx hdx hne => ?_⟩
  have e1 : Ex H (upd (upd H dx (.own x)) x (.ins (He.ga K "Trail") dx [])) := (Evl.Ex.new hdx).trans (Evl.Ex.new (by rw [upd_ne (Ne.symm hne)]; exact hx))
  refine ⟨H, x, dx, v1, rows, rfl, e1, hx, upd_same, hd1, rk, by omega, by omega, fun t H2 ht to => ⟨rfl, ?_⟩⟩
  subst ht
  obtain ⟨a, xs, rfl, hs, ha⟩ := dt_list hd2
  have hxl := dta_len ha
  have hl' : lits.all litD = true ∧ (lits.map fun d => nk (fstD d)).Nodup := by
    have h : (lits.all litD && decide _) = true := hl
    rw [Bool.and_eq_true] at h
    exact ⟨h.1, of_decide_eq_true h.2⟩
  have hll : ∀ l ∈ lits, litD l = true := List.all_eq_true.mp hl'.1
  refine ⟨_, rfl, a, rfl, ⟨xs, SqL.of (to.ge _ _ hs)⟩, ?_⟩
  refine for_it walk_list (fun i σ' H' => ∃ v, σ' = [some v1, some (.ref a), some (.ref t.tr), v, none] ∧ TO P w K H H' t rows (lits.take i) ((lits.take i).map fun l => (l, none))) ⟨none, rfl, by simpa using to⟩ (fun i σ' H' hi ⟨_, _, to⟩ => SqL.of (to.ge _ _ hs)) ?_ ?_
  · rintro i v σ' H' H3 hi ⟨v0, rfl, to'⟩ ⟨rfl, hv⟩
    obtain ⟨di, hdi, hti⟩ := dta_get ha hv
    have hli := hll di (List.mem_of_getElem? hdi)
    have htk : lits.take (i + 1) = lits.take i ++ [di] := by rw [List.take_succ, hdi]; rfl
    obtain ⟨r, x1, at1, b, rfl, hr1, hx1, hat, rfl⟩ := lit_at (ex_dt to'.ge _ _ hti) hli
    have nd : ((lits.take (i + 1)).map fun d => nk (fstD d)).Nodup := by
      have := hl'.2
      rw [← List.take_append_drop (i + 1) lits, List.map_append, List.nodup_append] at this
      exact this.1
    rw [htk, List.map_append, List.nodup_append] at nd
    have nin : ∀ c : Bool, nk (PyData.tuple [at1, .bool c]) ∉ (lits.take i).map nk := fun c hm => by
      obtain ⟨y, hy, e⟩ := List.mem_map.mp hm
      have hy2 := hll y (List.mem_of_mem_take hy)
      have := nk_lit hy2 (show litD (.tuple [at1, .bool c]) = true by simp [litD, isT, hat]) e
      subst this
      exact nd.2.2 (nk at1) (List.mem_map.mpr ⟨_, hy, rfl⟩) (nk at1) (by simp [fstD]) rfl
    refine ⟨_, rfl, t.tr, t.dx, _, rfl, to'.fi, no_stand _, _, rfl, ?_⟩
    refine ⟨H, t, r, x1, at1, b, none, rows, lits.take i, _, rfl, to', by rw [List.length_map, List.length_take]; omega, by rw [List.length_take]; omega, hr1, hx1, hat, nin b, nin (!b), fun H4 f4 to4 => ?_⟩
    refine ⟨_, rfl, ?_⟩
    rw [htk, List.map_append]
    exact to4
  rintro σ' H3 ⟨v0, rfl, to3⟩
  rw [hxl, List.take_length] at to3
  refine ⟨fun σ' H' => ∃ vl vn, σ' = [some v1, some (.ref a), some (.ref t.tr), vl, vn] ∧ TO P w K H H' t rows (lits ++ (stepsOf rows lits).map (·.1)) (lits.map (fun l => (l, none)) ++ (stepsOf rows lits).map fun p => (p.1, some p.2)), ?_, ?_⟩
  · refine ⟨fun m σ' H' => ∃ vl vn st, m = rows.length - st.length ∧ Along rows lits st ∧ σ' = [some v1, some (.ref a), some (.ref t.tr), vl, vn] ∧ TO P w K H H' t rows (lits ++ st.map (·.1)) (lits.map (fun l => (l, none)) ++ st.map fun p => (p.1, some p.2)), ⟨_, v0, none, [], rfl, along_0 _ _, rfl, by simpa using to3⟩, ?_⟩
    rintro m σ' H' ⟨vl, vn, st, rfl, al, rfl, to'⟩
    obtain ⟨bs, gs, ⟨kb, hb, kbk, bnd⟩, ⟨kg, hg, kgk, gnd⟩, bi1, bi2, bi3⟩ := to'.br
    have un := al.un
    have kbl : kb.length = bs.length := by have := congrArg List.length kbk; simpa using this
    have kgl : kg.length = gs.length := by have := congrArg List.length kgk; simpa using this
    have eb : ∀ j, j ∈ bs ↔ j < rows.length ∧ isBrk ((lits ++ st.map (·.1)).map nk) (rows.getD j []) = true := fun j => by
      rw [bi2 j, List.length_map]
      constructor
      · rintro ⟨h1, h2, h3⟩
        rw [getD_mapI h1] at h2 h3
        exact ⟨h1, decide_eq_true ⟨by omega, by omega⟩⟩
      · rintro ⟨h1, h2⟩
        have h2 := of_decide_eq_true h2
        rw [getD_mapI h1, getD_mapI h1]
        exact ⟨h1, by omega, by omega⟩
    have eg : ∀ j, j ∈ gs ↔ j < rows.length ∧ isGo ((lits ++ st.map (·.1)).map nk) (rows.getD j []) = true := fun j => by
      rw [bi3 j, List.length_map]
      constructor
      · rintro ⟨h1, h2, h3⟩
        rw [getD_mapI h1] at h2 h3
        exact ⟨h1, decide_eq_true ⟨by omega, by omega⟩⟩
      · rintro ⟨h1, h2⟩
        have h2 := of_decide_eq_true h2
        rw [getD_mapI h1, getD_mapI h1]
        exact ⟨h1, by omega, by omega⟩
    have dn : stepsOf rows lits = st → TO P w K H H' t rows (lits ++ (stepsOf rows lits).map (·.1)) (lits.map (fun l => (l, none)) ++ (stepsOf rows lits).map fun p => (p.1, some p.2)) := fun z => by rw [z]; exact to'
    have eT : ∀ i j : Int, i = j → V.bl (decide (V.int i = V.int j)) = V.bl true := fun i j e => by rw [e]; simp
    have eF : ∀ i j : Int, i ≠ j → V.bl (decide (V.int i = V.int j)) = V.bl false := fun i j e => by simp [e]
    by_cases cb : bs = []
    · have kb0 : kb.length = 0 := by rw [kbl, cb]; rfl
      have nb : brkN rows ((lits ++ st.map (·.1)).map nk) = none := find_no eb cb
      refine ⟨_, rfl, t.tr, t.dx, _, _, rfl, to'.fi, fl_broken t, t.br, kb, rfl, hb, rfl, true, eT _ _ (by rw [kb0]; rfl), ?_⟩
      refine ite2 (fun _ => ?_) (fun z => absurd rfl z)
      refine ⟨_, rfl, t.tr, t.dx, _, _, rfl, to'.fi, fl_going t, t.go, kg, rfl, hg, _, _, rfl, rfl, _, rfl, ?_⟩
      refine ite2 (fun h1 => ?_) (fun h1 => ?_)
      · have h1 := of_decide_eq_true h1
        have gne : gs ≠ [] := fun z => by have z2 : kg.length = 0 := (by rw [kgl, z]; rfl); omega
        refine ⟨fun σ' H' => ∃ vl vn st', st'.length = st.length + 1 ∧ Along rows lits st' ∧ σ' = [some v1, some (.ref a), some (.ref t.tr), vl, vn] ∧ TO P w K H H' t rows (lits ++ st'.map (·.1)) (lits.map (fun l => (l, none)) ++ st'.map fun p => (p.1, some p.2)), fun σ2 H2 ⟨vl', vn', st', e1, e2, e3, e4⟩ => ⟨rows.length - st'.length, by have := e2.un; omega, vl', vn', st', rfl, e2, e3, e4⟩, ?_⟩
        refine ⟨_, rfl, t.tr, t.dx, _, _, rfl, to'.fi, fl_going t, t.go, kg, gs.map fun n : Nat => (n : Int), rfl, hg, by rw [kgk, List.map_map]; rfl, by simpa using gne, fun mm hm hle => ?_⟩
        obtain ⟨n, hn, rfl⟩ := List.mem_map.mp hm
        have gn : goN rows ((lits ++ st.map (·.1)).map nk) = some n := find_min eg hn fun j hj => by have := hle _ (List.mem_map.mpr ⟨j, hj, rfl⟩); omega
        obtain ⟨g1, g2, g3⟩ := go_unmet gn
        obtain ⟨o1, o2, o3, o4⟩ := open_of g2
        have al2 := al.go nb gn
        generalize ho : openOf ((lits ++ st.map (·.1)).map nk) (rows.getD n []) = l at o1 o2 o3 o4 al2
        have hrk : rowD (.tuple (rows.getD n [])) = true := to'.rk _ (by rw [List.getD_eq_getElem?_getD, List.getElem?_eq_getElem g1]; exact List.getElem_mem g1)
        have hll' := row_lits hrk l o1
        refine ⟨_, rfl, t.tr, t.dx, _, rfl, to'.fi, no_stand _, _, rfl, t.tr, t.dx, _, rfl, to'.fi, no_spare _, _, rfl, ?_⟩
        refine ⟨H, t, n, rows, _, _, rfl, to', g1, by have := (of_decide_eq_true g2).2; omega, fun v l' r' H5 e5 hd5 hf5 => ?_⟩
        rw [o4] at hf5
        obtain rfl : l = l' := by injection hf5
        obtain ⟨r, x1, at1, b, rfl, hr1, hx1, hat, rfl⟩ := lit_at hd5 hll'
        refine ⟨_, rfl, H, t, r, x1, at1, b, some n, rows, _, _, rfl, to'.ex e5, ?_, ?_, hr1, hx1, hat, o2, o3, fun H6 f6 to6 => ?_⟩
        · rw [List.length_append, List.length_map, List.length_map]; omega
        · rw [List.length_append, List.length_map]; omega
        refine ⟨vl, _, st ++ [(.tuple [at1, .bool b], n)], by simp, al2, rfl, ?_⟩
        have e1 : lits ++ (st ++ [(PyData.tuple [at1, .bool b], n)]).map (·.1) = (lits ++ st.map (·.1)) ++ [PyData.tuple [at1, .bool b]] := by simp
        have e2 : lits.map (fun l => (l, (none : Option Nat))) ++ (st ++ [(PyData.tuple [at1, .bool b], n)]).map (fun p => (p.1, some p.2)) = (lits.map (fun l => (l, (none : Option Nat))) ++ st.map fun p => (p.1, some p.2)) ++ [(PyData.tuple [at1, .bool b], some n)] := by simp
        rw [e1, e2]
        exact to6
      · have g0 : gs = [] := by
          cases gs with
          | nil => rfl
          | cons g gs => exact absurd (decide_eq_true (by rw [kgl, List.length_cons]; omega)) h1
        exact ⟨vl, vn, rfl, dn (al.done (.inr (find_no eg g0)))⟩
    · have kb0 : kb.length ≠ 0 := by rw [kbl]; exact fun z => cb (List.length_eq_zero_iff.mp z)
      refine ⟨_, rfl, t.tr, t.dx, _, _, rfl, to'.fi, fl_broken t, t.br, kb, rfl, hb, rfl, false, eF _ _ (by omega), ?_⟩
      refine ite2 (fun z => absurd z (by decide)) (fun _ => ?_)
      refine ite2 (fun z => absurd z (by decide)) (fun _ => ?_)
      refine ⟨vl, vn, rfl, dn (al.done (.inl ?_))⟩
      cases e : brkN rows ((lits ++ st.map (·.1)).map nk) with
      | some n => rfl
      | none =>
        exfalso
        apply cb
        cases bs with
        | nil => rfl
        | cons b bs =>
          have hb1 := (eb b).mp (List.mem_cons_self ..)
          unfold brkN at e
          rw [List.find?_range_eq_none] at e
          have := e b hb1.1
          rw [hb1.2] at this
          cases this
  · rintro σ' H4 ⟨vl, vn, rfl, to4⟩
    exact ⟨_, rfl, q t H4 to4⟩
end
end K21
namespace K21
open PySem PySem.Spec PyProof.Rows L2 Hx Hd
open Evl (pss_cut tCut ex_l ex_t)
open M21
theorem pd_dta {G : Hp} {g : Nat → PyData} : ∀ {as : List Nat} {ys : List V}, Paired (fun i y => Dt G y (g i)) as ys → DtAll G ys (as.map g)
  | _, _, .nil => .nil
  | _, _, .cons h t => .cons h (pd_dta t)
theorem range_filter_map {α β : Type} (l : List α) (d : α) (p : α → Bool) (f : α → β) : ((List.range l.length).filter fun i => p (l.getD i d)).map (fun i => f (l.getD i d)) = (l.filter p).map f := by
  have h := range_map l d (fun x => x)
  rw [List.map_id'] at h
  conv => rhs; rw [← h, List.filter_map, List.map_map]
  rfl
theorem ent_list {H : Hp} : ∀ {evs : List V} {ents : List (PyData × Option Nat)}, Paired (Ent H) evs ents → ∃ as : List V, ∀ i, i < evs.length → ∃ p, evs[i]? = some (.ref p) ∧ H p = some (.tup [as.getD i .non, .int 0, whyV (ents.getD i (.none, none)).2]) ∧ Dt H (as.getD i .non) (ents.getD i (.none, none)).1 := by
  intro evs ents h
  induction h with
  | nil => exact ⟨[], fun i hi => absurd hi (by simp)⟩
  | @cons v e vs es h t ih =>
    obtain ⟨p, a, h1, h2, h3, h4⟩ := h
    obtain ⟨as, ih⟩ := ih
    refine ⟨a :: as, fun i hi => ?_⟩
    cases i with
    | zero => exact ⟨p, by rw [h1]; rfl, h2, h3⟩
    | succ i => exact ih i (by simpa using hi)
def encE (e : PyData × Option Nat) : PyData := match e.2 with | some n => .tuple [e.1, .int n] | none => .none
theorem ents_steps (lits : List PyData) (st : List (PyData × Nat)) : ((lits.map (fun l => (l, (none : Option Nat))) ++ st.map fun p => (p.1, some p.2)).filter fun e => e.2.isSome).map encE = st.map encS := by
  rw [List.filter_append, List.filter_map, List.filter_map]
  have h1 : lits.filter ((fun e : PyData × Option Nat => e.2.isSome) ∘ fun l => (l, none)) = [] := List.filter_eq_nil_iff.mpr fun x _ => by simp
  have h2 : st.filter ((fun e : PyData × Option Nat => e.2.isSome) ∘ fun p => (p.1, some p.2)) = st := List.filter_eq_self.mpr fun x _ => by simp
  rw [h1, h2, List.map_nil, List.nil_append, List.map_map]
  rfl
/-- an answer with a list of its own -/
def Ans (H0 H : Hp) (v : V) (d : PyData) : Prop := ∃ (p : Addr) (w : Str) (l : Addr) (xs rest : List V) (ds drest : List PyData), v = .ref p ∧ d = .tuple (.str w :: .list ds :: drest) ∧ H p = some (.tup (.str w :: .ref l :: rest)) ∧ H0 l = none ∧ H l = some (.lst xs) ∧ DtAll H xs ds ∧ DtAll H rest drest
section
variable {P : Program} {w : World} {K : PySem.W.Frag} {mg : Str → Option Value} {base : Heap}
def spForced (K : PySem.W.Frag) : Sp := fun vs H Q E => ∃ (v1 v2 : V) (d1 d2 : PyData), vs = [v1, v2] ∧ Dt H v1 d1 ∧ Dt H v2 d2 ∧ (∀ ds, d1 = .list ds → ds.length ≤ 100000) ∧ (∀ ds, d2 = .list ds → ds.length ≤ 2000) ∧
  (isLst d1 = false → Err (He.ga K "BadValue") [("name", .str "rows")] H E) ∧
  ∀ ds, d1 = .list ds → (∀ i e, ds[i]? = some e → rowD e = false → (∀ j e, j < i → ds[j]? = some e → rowD e = true) → Err (He.ga K "BadLine") [("word", .str "row"), ("index", .int (i : Nat))] H E) ∧
  ((∀ e ∈ ds, rowD e = true) → (litsD d2 = false → Err (He.ga K "BadValue") [("name", .str "literals")] H E) ∧
    ∀ (rs : Rws) lits, ds = rs.map PyData.tuple → d2 = .list lits → litsD d2 = true → (400 < rs.length → Err (He.ga K "TooMany") [("word", .str "lines")] H E) ∧
      (rs.length ≤ 400 → 2000 < (rs.map List.length).sum → Err (He.ga K "TooMany") [("word", .str "literals")] H E) ∧
      (rs.length ≤ 400 → (rs.map List.length).sum ≤ 2000 → ∀ v H2, Ex H H2 → Ans H H2 v (resD rs lits) → Q v H2))
theorem rows_tup : ∀ {ds : List PyData}, (∀ e ∈ ds, rowD e = true) → ∃ rs : Rws, ds = rs.map PyData.tuple
  | [], _ => ⟨[], rfl⟩
  | d :: ds, h => by
    obtain ⟨rs, hr⟩ := rows_tup fun e he => h e (List.mem_cons_of_mem _ he)
    have h1 := h d (List.mem_cons_self ..)
    cases d with
    | tuple r => exact ⟨r :: rs, by rw [hr]; rfl⟩
    | _ => cases h1
theorem lits_list {d : PyData} (h : litsD d = true) : ∃ lits, d = .list lits := by
  cases d with
  | list ds => exact ⟨ds, rfl⟩
  | _ => cases h
abbrev Nforced : List Str := ["rows", "literals", "trail", "steps", "literal", "height", "n"]
theorem scforced : FnScope Nforced ["rows", "literals"] (defScope (top 29)) := ⟨rfl, rfl, rfl, by decide +kernel, rfl, by decide +kernel, by decide +kernel⟩
theorem ok_forced (T : Txt K mg) (C_check_rows : Cal P w K mg base (L2.CX P w) 5 "check_rows" ["rows"] (spChkR K)) (C_check_literals : Cal P w K mg base (L2.CX P w) 5 "check_literals" ["literals"] (spChkL K)) (C_check_size : Cal P w K mg base (L2.CX P w) 3 "check_size" ["rows"] (spChkS K))
    (C_goes_along : Cal P w K mg base CX0 5 "goes_along" ["rows", "literals"] (spGoes P w K)) : Cal P w K mg base (L2.CX P w) 6 "forced" ["rows", "literals"] (spForced K) := by
  refine mkCalX T.g_forced T.d_forced scforced (fun _ _ _ _ _ _ us hl => match us, hl with | [_, _], _ => rfl) (fun vs H Q E h => ?_) fun cdv A outer s H vs Q E hr h => ?_
  · obtain ⟨_, _, _, _, rfl, _⟩ := h; rfl
  obtain ⟨v1, v2, d1, d2, rfl, hd1, hd2, z1, z2, q1, q2⟩ := h
  refine ⟨_, (pss_cons (ps_expr (pe_cal (E := E) C_check_rows (hr.mono (by decide)) (passes_call (takes_of rfl rfl rfl rfl) (fun _ _ _ _ h => h)) (pa_cons (pv 0) pa_nil)))
      (pss_cons (ps_expr (pe_cal (E := E) C_check_literals (hr.mono (by decide)) (passes_call (takes_of rfl rfl rfl rfl) (fun _ _ _ _ h => h)) (pa_cons (pv 1) pa_nil)))
      (pss_cons (ps_expr (pe_cal (E := E) C_check_size (hr.mono (by decide)) (passes_call (takes_of rfl rfl rfl rfl) (fun _ _ _ _ h => h)) (pa_cons (pv 0) pa_nil)))
      (pss_cons (ps_set (i := 2) scforced.nd rfl (Or.inl rfl) (pe_cal (E := E0) C_goes_along (hr.mono (by decide)) pass0 (pa_cons (pv 0) (pa_cons (pv 1) pa_nil))))
      (pss_cons (ps_setLc (i := 3) (own := [("literal", 4), ("height", 5), ("n", 6)]) (g := gTup K 3 (gCons (gName 4) (gCons (gName 5) (gCons (gName 6) gNil)))) rfl scforced.nd rfl rfl (sw_true rfl rfl rfl (by decide +kernel)) (piL (K := K) (pe_fl T.k_Trail T.a_Trail_entries (pv 2))) (blkOk_by (N := Nforced) (sc := defScope (top 29)) (by decide +kernel)) (fun _ _ _ _ _ => (pgTup (K := K) rfl (pgs_cons (pg_name (i := 4) scforced.nd rfl (Or.inl rfl)) (pgs_cons (pg_name (i := 5) scforced.nd rfl (Or.inl rfl)) (pgs_cons (pg_name (i := 6) scforced.nd rfl (Or.inl rfl)) pgs_nil))))) (fun _ _ _ _ _ => pts_one (pt_cmpR op_notN (pv 6) pe_non (nomark _))) (fun _ _ _ _ _ => (pe_tup (pa_cons (pv 4) (pa_cons (pv 6) pa_nil)))))
      (pss_cons (ps_if (pt_cmpR op_gt (pe_callB call_lenK (by rfl) T.n_len PySem.boot_len (pa_cons (pe_fl T.k_Trail T.a_Trail_broken (pv 2)) pa_nil)) pe_int (nomark _)) (pss_one (ps_ret (pe_tup (pa_cons pe_str (pa_cons (pv 3) (pa_cons (pe_callB (cr_minK rfl) (by rfl) T.n_min (by decide +kernel) (pa_cons (pe_fl T.k_Trail T.a_Trail_broken (pv 2)) pa_nil)) pa_nil)))))) pss_nil)
      (pss_one (ps_ret (pe_tup (pa_cons pe_str (pa_cons (pv 3) pa_nil))))))))))), ?_⟩
  refine ⟨_, rfl, v1, d1, rfl, hd1, z1, q1, fun ds hds => ⟨(q2 ds hds).1, fun hrow H1 e1 => ?_⟩⟩
  obtain ⟨q3, q4⟩ := (q2 ds hds).2 hrow
  refine ⟨_, rfl, v2, d2, rfl, ex_dt e1 _ _ hd2, fun ds' h' => by have := z2 ds' h'; omega, fun h' => (q3 h').mono e1, fun hl H2 e2 => ?_⟩
  obtain ⟨rs, hrs⟩ := rows_tup hrow
  obtain ⟨lits, hlits⟩ := lits_list hl
  obtain ⟨q5, q6, q7⟩ := q4 rs lits hrs hlits hl
  subst hds hrs hlits
  have e12 := e1.trans e2
  have zr := z1 _ rfl
  have zl := z2 _ rfl
  rw [List.length_map] at zr
  obtain ⟨a, xs, rfl, hs, ha⟩ := dt_list (ex_dt e12 _ _ hd1)
  refine ⟨_, rfl, a, xs, rs, rfl, hs, ha, zr, fun h' => (q5 h').mono e12, fun h' h'' => (q6 h' h'').mono e12, fun s1 s2 H3 e3 => ?_⟩
  have e13 := e12.trans e3
  refine ⟨_, rfl, _, rfl, _, v2, rs, lits, rfl, ex_dt e13 _ _ hd1, ex_dt e13 _ _ hd2, fun r hr => hrow _ (List.mem_map.mpr ⟨r, hr, rfl⟩), hl, s2, s1, zl, fun t H4 to => ?_⟩
  obtain ⟨evs, hev, pev⟩ := to.en
  obtain ⟨as, has⟩ := ent_list pev
  have hel := pev.length
  have hz3 := to.z3
  generalize hst : stepsOf rs lits = st at to pev has hel hz3
  have hres : resD rs lits = match brkN rs ((lits ++ st.map (·.1)).map nk) with
    | some n => .tuple [.str (Str.ofString "broken"), .list (st.map encS), .int n]
    | none => .tuple [.str (Str.ofString "stands"), .list (st.map encS)] := by unfold resD; first | (rw [hst]; done) | (rw [hst]; rfl)
  generalize hents : lits.map (fun l => (l, (none : Option Nat))) ++ st.map (fun p => (p.1, some p.2)) = ents at to pev has hel hz3
  refine ⟨_, rfl, t.tr, t.dx, _, _, rfl, to.fi, fl_entries t, t.en, rfl, ⟨evs, SqL.of hev⟩, fun D hD => ?_⟩
  refine lcW (M := NoM) walk_list (Evl.Ex.refl H4) (fun H' e => SqL.of (e _ _ hev)) (by omega) (fun i y G => Dt G y (encE (ents.getD i (.none, none)))) (fun _ _ _ _ e h => ex_dt e _ _ h) (fun i => (ents.getD i (.none, none)).2.isSome)
    (fun i => [some (.ref a), some v2, some (.ref t.tr), none, some (as.getD i .non), some (.int 0), some (whyV (ents.getD i (.none, none)).2)])
    (fun i x G' H' H'' hi a' yy Q q => ?_) (fun _ _ => rfl) (fun i G' H' hi a' Q q => ?_) (fun i G' H' hi hf a' Q q => ?_) (fun _ _ z => z) hD (fun ys G' H' a' gD hl' hsel => ?_)
  · obtain ⟨rfl, hv⟩ := yy
    obtain ⟨p, hp1, hp2, hp3⟩ := has i hi
    rw [hp1] at hv; cases hv
    exact ⟨p, _, rfl, SqT.of ((a'.gg.trans a'.gh) _ _ hp2), rfl, _, _, rfl, _, _, rfl, _, _, rfl, rfl, q G' _ (Stp.refl a'.gh)⟩
  · refine ⟨_, rfl, rfl, _, rfl, ?_⟩
    have : (!decide (whyV (ents.getD i (PyData.none, none)).2 = V.non)) = (ents.getD i (PyData.none, none)).2.isSome := by
      cases (ents.getD i (PyData.none, none)).2 with
      | none => rfl
      | some n => rfl
    rw [this]
    exact q G' H' (Stp.refl a'.gh)
  · obtain ⟨p, hp1, hp2, hp3⟩ := has i hi
    refine ⟨_, rfl, _, rfl, szl 2 (by omega), fun p0 hp0 => q _ _ _ (Stp.new a'.gh hp0) ?_⟩
    have e0 := a'.gg.trans (Evl.Ex.new (Evl.fresh_back a'.gh hp0) (o := .tup [as.getD i .non, whyV (ents.getD i (.none, none)).2]))
    have h5 := ex_dt e0 _ _ hp3
    unfold encE
    cases hw : (ents.getD i (PyData.none, none)).2 with
    | none => rw [hw] at hf; cases hf
    | some n =>
      rw [hw] at h5
      exact .tup upd_same (.cons h5 (.cons (.int _) .nil))
  have hys : DtAll G' ys (st.map encS) := by
    have h5 := pd_dta hsel
    rw [hel, range_filter_map ents (PyData.none, none) (fun e => e.2.isSome) encE, ← hents, ents_steps] at h5
    exact h5
  have e4 := a'.gg.trans a'.gh
  have eH : Ex H H' := (e13.trans to.ge).trans e4
  have hDn : H D = none := Evl.fresh_back (e13.trans to.ge) hD
  have to4 := to.ex e4
  obtain ⟨bs, gs, ⟨kb, hb, kbk, bnd⟩, ⟨kg, hg, kgk, gnd⟩, bi1, bi2, bi3⟩ := to4.br
  have kbl : kb.length = bs.length := by have := congrArg List.length kbk; simpa using this
  have eb : ∀ j, j ∈ bs ↔ j < rs.length ∧ isBrk ((lits ++ st.map (·.1)).map nk) (rs.getD j []) = true := fun j => by
    rw [bi2 j, List.length_map]
    constructor
    · rintro ⟨h1, h2, h3⟩
      rw [getD_mapI h1] at h2 h3
      exact ⟨h1, decide_eq_true ⟨by omega, by omega⟩⟩
    · rintro ⟨h1, h2⟩
      have h2 := of_decide_eq_true h2
      rw [getD_mapI h1, getD_mapI h1]
      exact ⟨h1, by omega, by omega⟩
  refine ⟨_, rfl, t.tr, t.dx, _, _, rfl, to4.fi, fl_broken t, t.br, kb, rfl, hb, _, _, rfl, rfl, _, rfl, ?_⟩
  refine ite2 (fun h1 => ?_) (fun h1 => ?_)
  · have h1 := of_decide_eq_true h1
    have bne : bs ≠ [] := fun z => by have z2 : kb.length = 0 := (by rw [kbl, z]; rfl); omega
    refine ⟨_, rfl, _, rfl, t.tr, t.dx, _, _, rfl, to4.fi, fl_broken t, t.br, kb, bs.map fun n : Nat => (n : Int), rfl, hb, by rw [kbk, List.map_map]; rfl, by simpa using bne, fun mm hm hle => ?_⟩
    obtain ⟨n, hn, rfl⟩ := List.mem_map.mp hm
    have bn : brkN rs ((lits ++ st.map (·.1)).map nk) = some n := find_min eb hn fun j hj => by have := hle _ (List.mem_map.mpr ⟨j, hj, rfl⟩); omega
    rw [bn] at hres
    refine ⟨szl 3 (by omega), fun p hp => q7 s1 s2 _ _ (eH.trans (Evl.Ex.new hp)) ?_⟩
    rw [hres]
    have e5 := Evl.Ex.new hp (o := .tup [.str "broken", .ref D, .int (n : Int)])
    exact ⟨p, _, D, ys, _, _, _, rfl, rfl, upd_same, hDn, e5 _ _ hl', ex_dta (a'.gh.trans e5) hys, .cons (.int _) .nil⟩
  · have b0 : bs = [] := by
      cases bs with
      | nil => rfl
      | cons b bs => exact absurd (decide_eq_true (by rw [kbl, List.length_cons]; omega)) h1
    have bn : brkN rs ((lits ++ st.map (·.1)).map nk) = none := find_no eb b0
    rw [bn] at hres
    refine ⟨_, rfl, szl 2 (by omega), fun p hp => q7 s1 s2 _ _ (eH.trans (Evl.Ex.new hp)) ?_⟩
    rw [hres]
    have e5 := Evl.Ex.new hp (o := .tup [.str "stands", .ref D])
    exact ⟨p, _, D, ys, _, _, _, rfl, rfl, upd_same, hDn, e5 _ _ hl', ex_dta (a'.gh.trans e5) hys, .nil⟩
end
end K21
namespace K21
open PySem PySem.Spec PyProof.Rows L2 Hx Hd
open Evl (pss_cut tCut ex_l ex_t)
open M21
theorem lit_fit {d : PyData} (h : litD d = true) : fitB 2 d = true := by
  obtain ⟨a, b, rfl, ha⟩ := lit_shape h
  rcases atom_shape ha with ⟨k, x, rfl⟩ | ⟨k, x, y, rfl⟩ | ⟨k, x, y, n, rfl⟩ <;> rfl
theorem tup_fit {n : Nat} {ds : List PyData} (hl : ds.length ≤ 100000) (h : ∀ d ∈ ds, fitB n d = true) : fitB (n + 1) (.tuple ds) = true := by
  rw [fitB, Bool.and_eq_true]
  exact ⟨decide_eq_true hl, fitBs_iff.mpr h⟩
theorem lst_fit {n : Nat} {ds : List PyData} (hl : ds.length ≤ 100000) (h : ∀ d ∈ ds, fitB n d = true) : fitB (n + 1) (.list ds) = true := by
  rw [fitB, Bool.and_eq_true]
  exact ⟨decide_eq_true hl, fitBs_iff.mpr h⟩
theorem fit_le {n m : Nat} (h : n ≤ m) {d : PyData} (f : fitB n d = true) : fitB m d = true := by
  induction h with
  | refl => exact f
  | step _ ih => exact fitB_up _ _ ih
theorem dta_rev {G : Hp} : ∀ {us : List V} {ds : List PyData}, DtAll G us ds → DtAll G us.reverse ds.reverse
  | [], _, h => by cases h; exact .nil
  | u :: us, _, h => by
    cases h with
    | cons h1 h2 =>
      rw [List.reverse_cons, List.reverse_cons]
      exact Hx.dta_app (dta_rev h2) (.cons h1 .nil)
section
variable {K : PySem.W.Frag} {s L a b : Addr} {G0 H0 G H : Hp} {xs ys : List V}
/-- t[:k], t[k:], t + u, all of them in G -/
theorem sl_take (g : Ga s L G0 H0 G H) (hx : G a = some (.tup xs)) {k : Nat} (hk : k ≤ xs.length) {Q : VK} (q : ∀ p G2 H2, Ga s L G0 H0 G2 H2 → Ex G G2 → Ga s L G H G2 H2 → G2 p = some (.tup (xs.take k)) → Q (.ref p) H2) : rSlA K (.ref a) none (some (k : Int)) H Q := by
  refine ⟨a, xs, rfl, SqT.of (g.ge _ _ hx), fun ⟨_, h⟩ => ?_, fun _ p hp => ?_⟩
  · rw [HT.sIx_nat, Nat.min_eq_left hk] at h
    refine q a G H g (Evl.Ex.refl _) (Ga.refl g.ge g.st g.gs) ?_
    rw [h, List.take_length]; exact hx
  · refine q p _ _ (g.new hp) (g.fr hp) ((Ga.refl g.ge g.st g.gs).new hp) ?_
    rw [upd_same, cut_to hk]
theorem sl_drop (g : Ga s L G0 H0 G H) (hx : G a = some (.tup xs)) {k : Nat} (hk : k ≤ xs.length) {Q : VK} (q : ∀ p G2 H2, Ga s L G0 H0 G2 H2 → Ex G G2 → Ga s L G H G2 H2 → G2 p = some (.tup (xs.drop k)) → Q (.ref p) H2) : rSlA K (.ref a) (some (k : Int)) none H Q := by
  refine ⟨a, xs, rfl, SqT.of (g.ge _ _ hx), fun ⟨h, _⟩ => ?_, fun _ p hp => ?_⟩
  · rw [HT.sIx_nat, Nat.min_eq_left hk] at h
    refine q a G H g (Evl.Ex.refl _) (Ga.refl g.ge g.st g.gs) ?_
    rw [h, List.drop_zero]; exact hx
  · refine q p _ _ (g.new hp) (g.fr hp) ((Ga.refl g.ge g.st g.gs).new hp) ?_
    rw [upd_same, cut_from hk]
theorem sl_dropN {σ : L2.St} (g : Ga s L G0 H0 G H) (hx : G a = some (.tup xs)) {k : Nat} (hk : k ≤ xs.length) {Q : VK} (q : ∀ p G2 H2, Ga s L G0 H0 G2 H2 → Ex G G2 → Ga s L G H G2 H2 → G2 p = some (.tup (xs.drop k)) → Q (.ref p) H2) : tNoPart σ H (fun u H3 => rSlA K (.ref a) (some (k : Int)) u H3 Q) := sl_drop g hx hk q
theorem cat_tt (g : Ga s L G0 H0 G H) (hx : G a = some (.tup xs)) (hy : G b = some (.tup ys)) (hz : xs.length + ys.length ≤ 100000) {Q : VK} (q : ∀ p G2 H2, Ga s L G0 H0 G2 H2 → Ex G G2 → Ga s L G H G2 H2 → G2 p = some (.tup (xs ++ ys)) → Q (.ref p) H2) : rCatA K (.ref a) (.ref b) H Q := by
  refine ⟨a, b, xs, ys, rfl, rfl, SqT.of (g.ge _ _ hx), SqT.of (g.ge _ _ hy), szl _ (by omega), fun h => ?_, fun _ h => ?_, fun _ _ p hp => ?_⟩
  · exact q b G H g (Evl.Ex.refl _) (Ga.refl g.ge g.st g.gs) (by rw [h]; exact hy)
  · exact q a G H g (Evl.Ex.refl _) (Ga.refl g.ge g.st g.gs) (by rw [h, List.append_nil]; exact hx)
  · exact q p _ _ (g.new hp) (g.fr hp) ((Ga.refl g.ge g.st g.gs).new hp) upd_same
end
section
variable {P : Program} {w : World} {K : PySem.W.Frag} {mg : Str → Option Value} {base : Heap}
def spBadRow : Sp := fun vs H Q _ => ∃ (s L a : Addr) (us : List V) (ds : List PyData) (G : Hp), vs = [.ref s, .ref a] ∧ Strm H s L ∧ Ex G H ∧ G s = none ∧ G a = some (.lst us) ∧ DtAll G us ds ∧ AtomsN ds ∧ 1 ≤ ds.length ∧
  ∀ v d G2 H2, Ga s L G H G2 H2 → Dt G2 v d → rowD d = false → fitB 4 d = true → Q v H2
abbrev N_law_bad_row : List Str := ["stream", "atoms", "row", "kind", "at"]
theorem sc_law_bad_row : FnScope N_law_bad_row ["stream", "atoms"] (defScope (top 49)) := ⟨rfl, rfl, rfl, by decide +kernel, rfl, by decide +kernel, by decide +kernel⟩
theorem ok_badrow (T : Txt K mg) (C__law_next : Cal P w K mg base CX0 1 "_law_next" ["stream", "many"] spNext) (C__law_pick : Cal P w K mg base CX0 2 "_law_pick" ["stream", "rows"] (spPick K)) (C__law_clause : Cal P w K mg base CX0 3 "_law_clause" ["stream", "atoms", "low", "high"] spClause)
    (C__law_bad_literal : Cal P w K mg base CX0 3 "_law_bad_literal" ["stream"] spBadLit) : Cal P w K mg base CX0 4 "_law_bad_row" ["stream", "atoms"] spBadRow := by
  refine mkCal T.g__law_bad_row T.d__law_bad_row sc_law_bad_row (fun _ _ _ _ _ _ us hl => match us, hl with | [_, _], _ => rfl) (fun vs H Q E h => ?_) fun cdv A outer s0 H vs Q E hr h => ?_
  · obtain ⟨_, _, _, _, _, _, rfl, _⟩ := h; rfl
  obtain ⟨s, L, a, us, ds, G, rfl, st, eG, gs, hus, hds, hat, hn, q⟩ := h
  refine ⟨_, (pss_cons (ps_set (i := 2) sc_law_bad_row.nd rfl (Or.inl rfl) (pe_cal (E := E0) C__law_clause (hr.mono (by decide)) pass0 (pa_cons (pv 0) (pa_cons (pv 1) (pa_cons pe_int (pa_cons pe_int pa_nil))))))
      (pss_cons (ps_set (i := 3) sc_law_bad_row.nd rfl (Or.inl rfl) (pe_cal (E := E0) C__law_next (hr.mono (by decide)) pass0 (pa_cons (pv 0) (pa_cons pe_int pa_nil))))
      (pss_cons (ps_if (pt_cmpR op_eq (pv 3) pe_int (nomark _)) (pss_one (ps_ret (pe_callTy (listOf (K := K)) (by rfl) T.n_list (by decide +kernel) (pa_cons (pv 2) pa_nil)))) pss_nil)
      (pss_cons (ps_if (pt_cmpR op_eq (pv 3) pe_int (nomark _)) (pss_one (ps_ret (pe_ifExp (pt_cmpR op_gt (pe_callB (lenL (K := K)) (by rfl) T.n_len PySem.boot_len (pa_cons (pv 2) pa_nil)) pe_int (nomark _)) (pe_tupRt rfl (by rfl) T.n_tuple (by rfl) T.n_reversed (pv 2)) (pe_op (catA (K := K)) (pv 2) (pv 2))))) pss_nil)
      (pss_cons (ps_if (pt_cmpR op_eq (pv 3) pe_int (nomark _)) (pss_cons (ps_set (i := 4) sc_law_bad_row.nd rfl (Or.inl rfl) (pe_cal (E := E0) C__law_next (hr.mono (by decide)) pass0 (pa_cons (pv 0) (pa_cons (pe_callB (lenL (K := K)) (by rfl) T.n_len PySem.boot_len (pa_cons (pv 2) pa_nil)) pa_nil))))
      (pss_one (ps_ret (pe_op (catA (K := K)) (pe_slice (slA (K := K)) (pv 2) po_none (po_some (pe_op op_add (pv 4) pe_int))) (pe_slice (slA (K := K)) (pv 2) (po_some (pv 4)) po_none))))) pss_nil)
      (pss_cons (ps_if (pt_cmpR op_eq (pv 3) pe_int (nomark _)) (pss_one (ps_ret (pe_cal (E := E0) C__law_pick (hr.mono (by decide)) pass0 (pa_cons (pv 0) (pa_cons (pe_tup (pa_cons pe_non (pa_cons pe_int (pa_cons pe_str (pa_cons pe_dnewK (pa_cons (pe_tup (pa_cons (pe_tup (pa_cons (pe_ix (ixT (K := K)) (pv 2) pe_int (fun _ _ => rfl)) pa_nil)) pa_nil)) pa_nil)))))) pa_nil))))) pss_nil)
      (pss_cons (ps_if (pt_cmpR op_eq (pv 3) pe_int (nomark _)) (pss_one (ps_ret (pe_op (catA (K := K)) (pe_slice (slA (K := K)) (pv 2) po_none (po_some pe_int)) (pe_tup (pa_cons (pe_cal (E := E0) C__law_bad_literal (hr.mono (by decide)) pass0 (pa_cons (pv 0) pa_nil)) pa_nil))))) pss_nil)
      (pss_one (ps_ret (pe_tup (pa_cons (pe_cal (E := E0) C__law_bad_literal (hr.mono (by decide)) pass0 (pa_cons (pv 0) pa_nil)) pa_nil))))))))))), ?_⟩
  refine ⟨_, rfl, _, rfl, s, L, a, us, ds, 1, 4, G, rfl, st, eG, gs, hus, hds, hat, hn, by omega, by omega, by omega, fun v r G1 H1 ga hv hrow r1 r4 => ?_⟩
  obtain ⟨p, xs, rfl, hp, hxs⟩ := dt_tup hv
  have xl := dta_len hxs
  have hll := row_lits hrow
  have hf2 : ∀ d ∈ r, fitB 2 d = true := fun d hd => lit_fit (hll d hd)
  refine ⟨_, rfl, s, L, 6, rfl, ga.st, by decide, by decide, fun kd H2 k0 k1 kp2 st2 => ?_⟩
  have ga2 := ga.next kp2 st2
  have hp2 := ga2.ge _ _ hp
  refine ⟨_, rfl, rfl, _, rfl, ?_⟩
  refine ite2 (fun _ => ?_) (fun _ => ?_)
  · refine ⟨_, rfl, p, xs, rfl, .inr (SqT.of hp2), fun l hl => q _ _ _ _ (ga2.new hl) (.lst upd_same (ex_dta (ga2.fr hl) hxs)) rfl (fit_le (n := 3) (by omega) (lst_fit (by omega) hf2))⟩
  refine ⟨_, rfl, rfl, _, rfl, ?_⟩
  refine ite2 (fun _ => ?_) (fun _ => ?_)
  · refine ⟨_, rfl, p, xs, rfl, .inr (SqT.of hp2), _, 1, rfl, rfl, _, rfl, ?_⟩
    refine ite2 (fun h1 => ?_) (fun h1 => ?_)
    · have h1 := of_decide_eq_true h1
      refine ⟨_, rfl, p, xs, rfl, SqT.of hp2, (fun z => by rw [z] at xl; simp at xl; omega), fun t ht => q _ _ _ _ (ga2.new ht) (.tup upd_same (ex_dta (ga2.fr ht) (dta_rev hxs))) (row_rev hrow (by omega)) (fit_le (n := 3) (by omega) (tup_fit (by rw [List.length_reverse]; omega) fun d hd => hf2 d (List.mem_reverse.mp hd)))⟩
    · have hl1 : r.length = 1 := by
        have : ¬ (1 : Int) < xs.length := fun z => h1 (decide_eq_true z)
        omega
      refine ⟨_, rfl, _, rfl, cat_tt (K := K) ga2 hp hp (by omega) fun t G3 H3 g3 e3 _ ht => q _ _ _ _ g3 (.tup ht (Hx.dta_app (ex_dta e3 hxs) (ex_dta e3 hxs))) ?_ (fit_le (n := 3) (by omega) (tup_fit (by rw [List.length_append]; omega) fun d hd => hf2 d ((List.mem_append.mp hd).elim id id)))⟩
      have := row_twice (r := r) (k := 0) (by omega)
      rwa [List.drop_zero, List.take_of_length_le (by omega)] at this
  refine ⟨_, rfl, rfl, _, rfl, ?_⟩
  refine ite2 (fun _ => ?_) (fun _ => ?_)
  · refine ⟨_, rfl, _, rfl, p, xs, rfl, .inr (SqT.of hp2), s, L, _, rfl, st2, by omega, by omega, fun d H3 d0 d1 kp3 st3 => ?_⟩
    have ga3 := ga2.next kp3 st3
    obtain ⟨k, rfl⟩ : ∃ k : Nat, d = (k : Int) := ⟨d.toNat, by omega⟩
    have e1 : (k : Int) + 1 = ((k + 1 : Nat) : Int) := by omega
    refine ⟨_, rfl, _, rfl, _, 1, rfl, rfl, _, rfl, ?_⟩
    rw [e1]
    refine sl_take (K := K) ga3 hp (by omega) fun p2 G4 H4 g4 e4 _ hp4 => ?_
    refine ⟨_, rfl, _, rfl, _, rfl, ?_⟩
    refine sl_dropN (K := K) (k := k) g4 (e4 _ _ hp) (by omega) fun p3 G5 H5 g5 e5 _ hp5 => ?_
    refine cat_tt (K := K) g5 (e5 _ _ hp4) hp5 (by rw [List.length_take, List.length_drop]; omega) fun t G6 H6 g6 e6 _ ht => ?_
    have e46 := (e4.trans e5).trans e6
    refine q _ _ _ _ g6 (.tup ht (Hx.dta_app (dta_take (k + 1) (ex_dta e46 hxs)) (dta_drop k (ex_dta e46 hxs)))) (row_twice (by omega)) (fit_le (n := 3) (by omega) (tup_fit (by rw [List.length_append, List.length_take, List.length_drop]; omega) fun d hd => hf2 d ?_))
    exact (List.mem_append.mp hd).elim List.mem_of_mem_take List.mem_of_mem_drop
  refine ⟨_, rfl, rfl, _, rfl, ?_⟩
  refine ite2 (fun _ => ?_) (fun _ => ?_)
  · have hx0 : xs[0]? = some (xs.getD 0 .non) := by rw [List.getD_eq_getElem?_getD, List.getElem?_eq_getElem (by omega)]; rfl
    obtain ⟨x0, hx1, hx2⟩ := dta_get hxs hx0
    have hm0 := List.mem_of_getElem? hx1
    refine ⟨_, rfl, fun t0 ht0 => ?_⟩
    have g3 := ga2.new ht0 (o := .dK [])
    have e3 : Ex G1 _ := ga2.fr ht0 (o := .dK [])
    have c0 : Dt (upd G1 t0 (.dK [])) (.ref t0) (.dict []) := .dct upd_same .nil
    have hp3 := e3 _ _ hp
    have hx3 := ex_dt e3 _ _ hx2
    generalize upd G1 t0 (.dK []) = G3 at g3 e3 c0 hp3 hx3
    generalize upd H2 t0 (.dK []) = H3 at g3
    refine ⟨_, rfl, p, xs, 0, _, rfl, rfl, SqT.of (g3.ge _ _ hp3), at_nat (i := 0) hx0, szl 1 (by omega), fun t1 ht1 => ?_⟩
    obtain ⟨g4, e4, c4⟩ := ga_tup g3 ht1 (xs := [xs.getD 0 .non]) (ds := [x0]) (.cons hx3 .nil)
    have c04 := ex_dt e4 _ _ c0
    generalize upd G3 t1 (.tup [xs.getD 0 .non]) = G4 at g4 e4 c4 c04
    generalize upd H3 t1 (.tup [xs.getD 0 .non]) = H4 at g4
    refine ⟨szl 1 (by omega), fun t2 ht2 => ?_⟩
    obtain ⟨g5, e5, c5⟩ := ga_tup g4 ht2 (xs := [.ref t1]) (ds := [.tuple [x0]]) (.cons c4 .nil)
    have c05 := ex_dt e5 _ _ c04
    generalize upd G4 t2 (.tup [.ref t1]) = G5 at g5 e5 c5 c05
    generalize upd H4 t2 (.tup [.ref t1]) = H5 at g5
    refine ⟨szl 5 (by omega), fun t3 ht3 => ?_⟩
    have g6 := g5.new ht3 (o := .tup [.non, .int 7, .str "row", .ref t0, .ref t2])
    have e6 : Ex G5 _ := g5.fr ht3 (o := .tup [.non, .int 7, .str "row", .ref t0, .ref t2])
    have h6 : upd G5 t3 (.tup [.non, .int 7, .str "row", .ref t0, .ref t2]) t3 = some (.tup [.non, .int 7, .str "row", .ref t0, .ref t2]) := upd_same
    have c6 : DtAll (upd G5 t3 (.tup [.non, .int 7, .str "row", .ref t0, .ref t2])) [.non, .int 7, .str "row", .ref t0, .ref t2] [.none, .int 7, .str (Str.ofString "row"), .dict [], .tuple [.tuple [x0]]] := .cons .non (.cons (.int _) (.cons (.str _) (.cons (ex_dt e6 _ _ c05) (.cons (ex_dt e6 _ _ c5) .nil))))
    generalize upd G5 t3 (.tup [.non, .int 7, .str "row", .ref t0, .ref t2]) = G6 at g6 e6 h6 c6
    generalize upd H5 t3 (.tup [.non, .int 7, .str "row", .ref t0, .ref t2]) = H6 at g6
    refine ⟨s, L, t3, _, rfl, g6.st, .inr (SqT.of (g6.ge _ _ h6)), g5.no ht3, by simp, by simp, fun j x H7 hj kp7 st7 => ?_⟩
    obtain ⟨dj, hd1, hd2⟩ := dta_get c6 hj
    have g7 := g6.next kp7 st7
    have hf : fitB 4 (.tuple [.tuple [x0]]) = true := tup_fit (by simp) fun d hd => by
      rw [List.mem_singleton.mp hd]
      exact tup_fit (by simp) fun d hd => by rw [List.mem_singleton.mp hd]; exact hf2 _ hm0
    have hm := List.mem_of_getElem? hd1
    simp only [List.mem_cons, List.not_mem_nil, or_false] at hm
    rcases hm with rfl | rfl | rfl | rfl | rfl
    · exact q _ _ _ _ g7 hd2 rfl rfl
    · exact q _ _ _ _ g7 hd2 rfl rfl
    · exact q _ _ _ _ g7 hd2 rfl rfl
    · exact q _ _ _ _ g7 hd2 rfl rfl
    · exact q _ _ _ _ g7 hd2 (row_no_lit (List.mem_singleton.mpr rfl) rfl) hf
  refine ⟨_, rfl, rfl, _, rfl, ?_⟩
  refine ite2 (fun _ => ?_) (fun _ => ?_)
  · refine ⟨_, rfl, 1, rfl, sl_take (K := K) (k := 1) ga2 hp (by omega) fun p2 G3 H3 g3 e3 g3' hp3 => ?_⟩
    refine ⟨_, rfl, s, L, G3, rfl, g3.st, g3.ge, g3.gs, fun v d G4 H4 g4 hd hbad hfit => ⟨szl 1 (by omega), fun t ht => ?_⟩⟩
    obtain ⟨g5, e5, c5⟩ := ga_tup (g3.trans g4) ht (xs := [v]) (ds := [d]) (.cons hd .nil)
    have e35 := g4.gg.trans e5
    refine cat_tt (K := K) g5 (e35 _ _ hp3) upd_same (by rw [List.length_take]; simp; omega) fun t2 G6 H6 g6 e6 _ ht2 => ?_
    have e6' := (e3.trans e35).trans e6
    refine q _ _ _ _ g6 (.tup ht2 (Hx.dta_app (dta_take 1 (ex_dta e6' hxs)) (.cons (ex_dt (e5.trans e6) _ _ hd) .nil))) (row_no_lit (x := d) (by simp) hbad) (fit_le (n := 3) (by omega) (tup_fit (by rw [List.length_append, List.length_take]; simp; omega) fun e he => ?_))
    rcases List.mem_append.mp he with he | he
    · exact hf2 e (List.mem_of_mem_take he)
    · rw [List.mem_singleton.mp he]; exact hfit
  · refine ⟨_, rfl, s, L, G1, rfl, st2, ga2.ge, ga2.gs, fun v d G4 H4 g4 hd hbad hfit => ⟨szl 1 (by omega), fun t ht => ?_⟩⟩
    exact q _ _ _ _ ((ga2.trans g4).new ht) (.tup upd_same (.cons (ex_dt ((ga2.trans g4).fr ht) _ _ hd) .nil)) (row_no_lit (x := d) (by simp) hbad) (fit_le (n := 3) (by omega) (tup_fit (by simp) fun e he => by rw [List.mem_singleton.mp he]; exact hfit))
end
end K21
namespace K21
open PySem PySem.Spec PyProof.Rows L2 Hx Hd
open Evl (pss_cut tCut ex_l ex_t)
open M21
theorem lits_dup {ms : List PyData} {y z : PyData} (hy : y ∈ ms) (h : fstD z = fstD y) : litsD (.list (ms ++ [z])) = false := by
  show (_ && decide _) = false
  rw [decide_eq_false ?_, Bool.and_false]
  intro nd
  rw [List.map_append, List.nodup_append] at nd
  exact nd.2.2 (nk (fstD y)) (List.mem_map.mpr ⟨y, hy, rfl⟩) (nk (fstD z)) (by simp) (by rw [h])
theorem lits_bad {ms : List PyData} {y : PyData} (hy : y ∈ ms) (h : litD y = false) : litsD (.list ms) = false := by
  show (ms.all litD && _) = false
  rw [show ms.all litD = false from Bool.eq_false_iff.mpr fun z => by rw [List.all_eq_true] at z; have := z y hy; rw [h] at this; cases this]
  rfl
theorem rows_good {rs : Rws} (h : RowsN rs) : ∀ d ∈ rs.map PyData.tuple, rowD d = true ∧ fitB 4 d = true := fun d hd => by
  obtain ⟨r, hr, rfl⟩ := List.mem_map.mp hd
  have h1 := (h r hr).1
  have h2 := (h r hr).2
  exact ⟨h1, fit_le (n := 3) (by omega) (tup_fit (by omega) fun x hx => lit_fit (row_lits h1 x hx))⟩
section
variable {P : Program} {w : World} {K : PySem.W.Frag} {mg : Str → Option Value} {base : Heap}
def spBadRows : Sp := fun vs H Q _ => ∃ (s L a ra : Addr) (us xs : List V) (ds : List PyData) (rs : Rws) (G : Hp), vs = [.ref s, .ref a, .ref ra] ∧ Strm H s L ∧ Ex G H ∧ G s = none ∧ G a = some (.lst us) ∧ DtAll G us ds ∧ AtomsN ds ∧ 1 ≤ ds.length ∧
  G ra = some (.lst xs) ∧ DtAll G xs (rs.map PyData.tuple) ∧ RowsN rs ∧ rs.length ≤ 50 ∧
  ∀ p v1 v2 bd due G2 H2, Ga s L G H G2 H2 → G2 p = some (.lst [v1, v2]) → Dt G2 v1 bd → Dt G2 v2 due → (∀ l, askD bd l = due) → fitB 5 bd = true → (∀ ds, bd = .list ds → ds.length ≤ 200) → nodes due ≤ 100 → Q (.ref p) H2
abbrev N_law_bad_rows : List Str := ["stream", "atoms", "rows", "at", "found"]
theorem sc_law_bad_rows : FnScope N_law_bad_rows ["stream", "atoms", "rows"] (defScope (top 50)) := ⟨rfl, rfl, rfl, by decide +kernel, rfl, by decide +kernel, by decide +kernel⟩
theorem ok_badrows (T : Txt K mg) (C__law_next : Cal P w K mg base CX0 1 "_law_next" ["stream", "many"] spNext) (C__law_pick : Cal P w K mg base CX0 2 "_law_pick" ["stream", "rows"] (spPick K))
    (C__law_bad_row : Cal P w K mg base CX0 4 "_law_bad_row" ["stream", "atoms"] spBadRow) : Cal P w K mg base CX0 5 "_law_bad_rows" ["stream", "atoms", "rows"] spBadRows := by
  refine mkCal T.g__law_bad_rows T.d__law_bad_rows sc_law_bad_rows (fun _ _ _ _ _ _ us hl => match us, hl with | [_, _, _], _ => rfl) (fun vs H Q E h => ?_) fun cdv A outer s0 H vs Q E hr h => ?_
  · obtain ⟨_, _, _, _, _, _, _, _, _, rfl, _⟩ := h; rfl
  obtain ⟨s, L, a, ra, us, xs, ds, rs, G, rfl, st, eG, gs, hus, hds, hat, hn, hra, hxs, hrows, hrl, q⟩ := h
  refine ⟨_, (pss_cons (ps_if (pt_cmpR op_eq (pe_cal (E := E0) C__law_next (hr.mono (by decide)) pass0 (pa_cons (pv 0) (pa_cons pe_int pa_nil))) pe_int (nomark _)) (pss_one (ps_ret (pe_lst (pa_cons (pe_cal (E := E0) C__law_pick (hr.mono (by decide)) pass0 (pa_cons (pv 0) (pa_cons (pe_tup (pa_cons (pe_callTy (tupOf (K := K)) (by rfl) T.n_tuple (by decide +kernel) (pa_cons (pv 2) pa_nil)) (pa_cons pe_non (pa_cons pe_dnewK (pa_cons pe_str (pa_cons pe_int pa_nil)))))) pa_nil))) (pa_cons (pe_lst (pa_cons pe_str (pa_cons pe_str (pa_cons (pe_tup (pa_cons pe_str pa_nil)) pa_nil)))) pa_nil))))) pss_nil)
      (pss_cons (ps_set (i := 3) sc_law_bad_rows.nd rfl (Or.inl rfl) (pe_cal (E := E0) C__law_next (hr.mono (by decide)) pass0 (pa_cons (pv 0) (pa_cons (pe_op op_add (pe_callB (lenL (K := K)) (by rfl) T.n_len PySem.boot_len (pa_cons (pv 2) pa_nil)) pe_int) pa_nil))))
      (pss_cons (ps_set (i := 4) sc_law_bad_rows.nd rfl (Or.inl rfl) (pe_op op_cat (pe_op op_cat (pe_slice (slL (K := K)) (pv 2) po_none (po_some (pv 3))) (pe_lst (pa_cons (pe_cal (E := E0) C__law_bad_row (hr.mono (by decide)) pass0 (pa_cons (pv 0) (pa_cons (pv 1) pa_nil))) pa_nil))) (pe_slice (slL (K := K)) (pv 2) (po_some (pv 3)) po_none)))
      (pss_cut (ps_if (pt_cmpR op_eq (pe_cal (E := E0) C__law_next (hr.mono (by decide)) pass0 (pa_cons (pv 0) (pa_cons pe_int pa_nil))) pe_int (nomark _)) (pss_one (ps_expr (pe_bm PySem.F.plainAttrs_list PySem.F.slot_list_append PySem.F.type_list_append mt_append (pv 4) (pa_cons (pe_cal (E := E0) C__law_bad_row (hr.mono (by decide)) pass0 (pa_cons (pv 0) (pa_cons (pv 1) pa_nil))) pa_nil)))) pss_nil)
      (pss_one (ps_ret (pe_lst (pa_cons (pv 4) (pa_cons (pe_lst (pa_cons pe_str (pa_cons pe_str (pa_cons (pe_tup (pa_cons (pv 3) (pa_cons pe_str pa_nil))) pa_nil)))) pa_nil))))))))), ?_⟩
  have xl := dta_len hxs
  rw [List.length_map] at xl
  have hgood := rows_good hrows
  refine ⟨_, rfl, s, L, 4, rfl, st, by decide, by decide, fun d0 H1 _ _ kp1 st1 => ⟨rfl, _, rfl, ?_⟩⟩
  have ga := (Ga.refl eG st gs).next kp1 st1
  refine ite2 (fun _ => ?_) (fun _ => ?_)
  · refine ⟨_, rfl, _, rfl, ra, xs, rfl, .inl ⟨SqL.of (ga.ge _ _ hra), fun t1 ht1 => ?_⟩⟩
    obtain ⟨g1, e1, c1⟩ := ga_tup ga ht1 hxs
    generalize upd G t1 (.tup xs) = G1 at g1 e1 c1
    generalize upd H1 t1 (.tup xs) = I1 at g1
    refine fun t2 ht2 => ?_
    have g2 := g1.new ht2 (o := .dK [])
    have e2 : Ex G1 _ := g1.fr ht2 (o := .dK [])
    have c2 : Dt (upd G1 t2 (.dK [])) (.ref t2) (.dict []) := .dct upd_same .nil
    have c12 := ex_dt e2 _ _ c1
    generalize upd G1 t2 (.dK []) = G2 at g2 e2 c2 c12
    generalize upd I1 t2 (.dK []) = I2 at g2
    refine ⟨szl 5 (by omega), fun t3 ht3 => ?_⟩
    have g3 := g2.new ht3 (o := .tup [.ref t1, .non, .ref t2, .str "rows", .int 4])
    have e3 : Ex G2 _ := g2.fr ht3 (o := .tup [.ref t1, .non, .ref t2, .str "rows", .int 4])
    have h3 : upd G2 t3 (.tup [.ref t1, .non, .ref t2, .str "rows", .int 4]) t3 = some (.tup [.ref t1, .non, .ref t2, .str "rows", .int 4]) := upd_same
    have c3 : DtAll (upd G2 t3 (.tup [.ref t1, .non, .ref t2, .str "rows", .int 4])) [.ref t1, .non, .ref t2, .str "rows", .int 4] [.tuple (rs.map PyData.tuple), .none, .dict [], .str (Str.ofString "rows"), .int 4] := .cons (ex_dt e3 _ _ c12) (.cons .non (.cons (ex_dt e3 _ _ c2) (.cons (.str _) (.cons (.int _) .nil))))
    generalize upd G2 t3 (.tup [.ref t1, .non, .ref t2, .str "rows", .int 4]) = G3 at g3 e3 h3 c3
    generalize upd I2 t3 (.tup [.ref t1, .non, .ref t2, .str "rows", .int 4]) = I3 at g3
    refine ⟨s, L, t3, _, rfl, g3.st, .inr (SqT.of (g3.ge _ _ h3)), g2.no ht3, by simp, by simp, fun j x H4 hj kp4 st4 => ?_⟩
    obtain ⟨dj, hd1, hd2⟩ := dta_get c3 hj
    have g4 := g3.next kp4 st4
    refine ⟨szl 1 (by omega), fun t4 ht4 => ?_⟩
    obtain ⟨g5, e5, c5⟩ := ga_tup g4 ht4 (xs := [.str "rows"]) (ds := [.str (Str.ofString "rows")]) (.cons (.str _) .nil)
    refine ⟨szl 3 (by omega), fun t5 ht5 => ?_⟩
    obtain ⟨g6, e6, c6⟩ := ga_lst g5 ht5 (xs := [.str "raised", .str "BadValue", .ref t4]) (ds := [.str (Str.ofString "raised"), .str (Str.ofString "BadValue"), .tuple [.str (Str.ofString "rows")]]) (.cons (.str _) (.cons (.str _) (.cons c5 .nil)))
    refine ⟨szl 2 (by omega), fun t6 ht6 => ?_⟩
    have g7 := g6.new ht6 (o := .lst [x, .ref t5])
    have e7 : Ex _ _ := g6.fr ht6 (o := .lst [x, .ref t5])
    have ask : ∀ l, isLst dj = false → askD dj l = rsd "BadValue" [.str (Str.ofString "rows")] := fun l h => by cases dj <;> first | rfl | cases h
    have hm := List.mem_of_getElem? hd1
    have hmm : isLst dj = false ∧ fitB 5 dj = true := by
      simp only [List.mem_cons, List.not_mem_nil, or_false] at hm
      rcases hm with rfl | rfl | rfl | rfl | rfl
      · exact ⟨rfl, tup_fit (by rw [List.length_map]; omega) fun d hd => (hgood d hd).2⟩
      · exact ⟨rfl, rfl⟩
      · exact ⟨rfl, rfl⟩
      · exact ⟨rfl, rfl⟩
      · exact ⟨rfl, rfl⟩
    exact q _ _ _ _ _ _ _ g7 upd_same (ex_dt ((e5.trans e6).trans e7) _ _ hd2) (ex_dt e7 _ _ c6) (fun l => ask l hmm.1) hmm.2 (fun ds h => by rw [h] at hmm; exact absurd hmm.1 (by simp [isLst])) (by simp [nodes, nodesL])
  refine ⟨_, rfl, _, rfl, ra, xs, rfl, .inl (SqL.of (ga.ge _ _ hra)), _, 1, rfl, rfl, s, L, _, rfl, st1, by omega, by omega, fun d H2 d1 d2 kp2 st2 => ?_⟩
  obtain ⟨k, rfl⟩ : ∃ k : Nat, d = (k : Int) := ⟨d.toNat, by omega⟩
  have ga2 := ga.next kp2 st2
  refine ⟨_, rfl, _, rfl, _, rfl, ra, xs, rfl, SqL.of (ga2.ge _ _ hra), fun z1 hz1 => ?_⟩
  rw [cut_to (by omega)]
  have g1 := ga2.new hz1 (o := .lst (xs.take k))
  have e1 : Ex G _ := ga2.fr hz1 (o := .lst (xs.take k))
  have h1 : upd G z1 (.lst (xs.take k)) z1 = some (.lst (xs.take k)) := upd_same
  generalize upd G z1 (.lst (xs.take k)) = G1 at g1 e1 h1
  generalize upd H2 z1 (.lst (xs.take k)) = I1 at g1
  refine ⟨_, rfl, _, rfl, s, L, a, us, ds, G1, rfl, g1.st, g1.ge, g1.gs, e1 _ _ hus, ex_dta e1 hds, hat, hn, fun v bd G2 I2 b2 hv hbad hfit => ⟨szl 1 (by omega), fun z2 hz2 => ?_⟩⟩
  have g2 := g1.trans b2
  have g3 := g2.new hz2 (o := .lst [v])
  have e3 : Ex G2 _ := g2.fr hz2 (o := .lst [v])
  have h3 : upd G2 z2 (.lst [v]) z2 = some (.lst [v]) := upd_same
  have h13 := e3 _ _ (b2.gg _ _ h1)
  have e03 := (e1.trans b2.gg).trans e3
  have hv3 := ex_dt e3 _ _ hv
  generalize upd G2 z2 (.lst [v]) = G3 at g3 e3 h3 h13 e03 hv3
  generalize upd I2 z2 (.lst [v]) = I3 at g3
  refine ⟨z1, z2, _, _, rfl, rfl, g3.ge _ _ h13, g3.ge _ _ h3, szl _ (by rw [List.length_take]; simp; omega), fun z3 hz3 => ?_⟩
  have g4 := g3.new hz3 (o := .lst (xs.take k ++ [v]))
  have e4 : Ex G3 _ := g3.fr hz3 (o := .lst (xs.take k ++ [v]))
  have h4 : upd G3 z3 (.lst (xs.take k ++ [v])) z3 = some (.lst (xs.take k ++ [v])) := upd_same
  generalize upd G3 z3 (.lst (xs.take k ++ [v])) = G4 at g4 e4 h4
  generalize upd I3 z3 (.lst (xs.take k ++ [v])) = I4 at g4
  have e04 := e03.trans e4
  refine ⟨_, rfl, _, rfl, _, rfl, ra, xs, rfl, SqL.of (g4.ge _ _ (e04 _ _ hra)), fun z4 hz4 => ?_⟩
  rw [cut_from (by omega)]
  have g5 := g4.new hz4 (o := .lst (xs.drop k))
  have e5 : Ex G4 _ := g4.fr hz4 (o := .lst (xs.drop k))
  have h5 : upd G4 z4 (.lst (xs.drop k)) z4 = some (.lst (xs.drop k)) := upd_same
  generalize upd G4 z4 (.lst (xs.drop k)) = G5 at g5 e5 h5
  generalize upd I4 z4 (.lst (xs.drop k)) = I5 at g5
  refine ⟨z3, z4, _, _, rfl, rfl, g5.ge _ _ (e5 _ _ h4), g5.ge _ _ h5, szl _ (by rw [List.length_append, List.length_take, List.length_drop]; simp; omega), fun f hf => ?_⟩
  have e05 := e04.trans e5
  have gf : G5 f = none := Evl.fresh_back g5.ge hf
  have hf0 := g5.dm hf
  have nfs := g5.no hf
  have g6 := g5.lay hf (o := .lst (xs.take k ++ [v] ++ xs.drop k))
  have hf6 : upd I5 f (.lst (xs.take k ++ [v] ++ xs.drop k)) f = some (.lst (xs.take k ++ [v] ++ xs.drop k)) := upd_same
  have hx5 := ex_dta e05 hxs
  have hd6 : DtAll G5 (xs.take k ++ [v] ++ xs.drop k) ((rs.map PyData.tuple).take k ++ bd :: (rs.map PyData.tuple).drop k) := by
    have := Hx.dta_app (Hx.dta_app (dta_take k hx5) (.cons (ex_dt (e4.trans e5) _ _ hv3) .nil)) (dta_drop k hx5)
    have e : (rs.map PyData.tuple).take k ++ [bd] ++ (rs.map PyData.tuple).drop k = (rs.map PyData.tuple).take k ++ bd :: (rs.map PyData.tuple).drop k := by simp
    rw [e] at this
    exact this
  generalize upd I5 f (.lst (xs.take k ++ [v] ++ xs.drop k)) = I6 at g6 hf6
  refine ⟨fun σ' H' => ∃ G' xs' tl, σ' = [some (.ref s), some (.ref a), some (.ref ra), some (.int (k : Nat)), some (.ref f)] ∧ Ga s L G H G' H' ∧ G' f = none ∧ H' f = some (.lst xs') ∧ DtAll G' xs' ((rs.map PyData.tuple).take k ++ bd :: tl) ∧ tl.length ≤ 52 ∧ ∀ d ∈ tl, fitB 4 d = true, ?_, ?_⟩
  · refine ⟨_, rfl, s, L, 2, rfl, g6.st, by decide, by decide, fun d0 H7 _ _ kp7 st7 => ⟨rfl, _, rfl, ?_⟩⟩
    have g7 := g6.next kp7 st7
    have hf7 := kp7 f _ nfs hf6
    have dl : ((rs.map PyData.tuple).drop k).length ≤ 50 := by rw [List.length_drop, List.length_map]; omega
    have dfit : ∀ d ∈ (rs.map PyData.tuple).drop k, fitB 4 d = true := fun d hd => (hgood d (List.mem_of_mem_drop hd)).2
    refine ite2 (fun _ => ?_) (fun _ => ⟨G5, _, _, rfl, g7, gf, hf7, hd6, by omega, dfit⟩)
    refine ⟨_, rfl, .inl ⟨rfl, _, SqL.of hf7⟩, _, rfl, _, rfl, s, L, a, us, ds, G5, rfl, g7.st, g7.ge, g7.gs, e05 _ _ hus, ex_dta e05 hds, hat, hn, fun v2 bd2 G8 I8 b8 hv8 _ hfit8 => ?_⟩
    have hf8 := b8.keep nfs hf7
    have gf8 := b8.gn hf7 gf
    have hlen : (xs.take k ++ [v] ++ xs.drop k).length ≤ 1000 := by simp only [List.length_append, List.length_take, List.length_drop, List.length_singleton]; omega
    refine ⟨f, _, _, rfl, rfl, hf8, Nat.lt_of_le_of_lt hlen (sz 1000 (by omega)), G8, _, (rs.map PyData.tuple).drop k ++ [bd2], rfl, (g7.trans b8).mut hf0 gf8, gf8, upd_same, ?_, by rw [List.length_append]; simp; omega, fun d hd => ?_⟩
    · have := Hx.dta_app (ex_dta b8.gg hd6) (.cons hv8 .nil)
      have e : (rs.map PyData.tuple).take k ++ bd :: (rs.map PyData.tuple).drop k ++ [bd2] = (rs.map PyData.tuple).take k ++ bd :: ((rs.map PyData.tuple).drop k ++ [bd2]) := by simp
      rw [e] at this
      exact this
    · rcases List.mem_append.mp hd with hd | hd
      · exact dfit d hd
      · rw [List.mem_singleton.mp hd]; exact hfit8
  rintro σ' H' ⟨G', xs', tl, rfl, g8, gf8, hf8, hd8, htl, hfl⟩
  have g9 := g8.fix hf0 hf8
  have e9 : Ex G' (upd G' f (.lst xs')) := Evl.Ex.new gf8
  have h9 : upd G' f (.lst xs') f = some (.lst xs') := upd_same
  have hd9 := ex_dta e9 hd8
  generalize upd G' f (.lst xs') = G9 at g9 e9 h9 hd9
  refine ⟨_, rfl, _, rfl, szl 2 (by omega), fun t1 ht1 => ?_⟩
  obtain ⟨ga, ea, ca⟩ := ga_tup g9 ht1 (xs := [.int (k : Nat), .str "row"]) (ds := [.int (k : Nat), .str (Str.ofString "row")]) (.cons (.int _) (.cons (.str _) .nil))
  refine ⟨szl 3 (by omega), fun t2 ht2 => ?_⟩
  obtain ⟨gb, eb, cb⟩ := ga_lst ga ht2 (xs := [.str "raised", .str "BadLine", .ref t1]) (ds := [.str (Str.ofString "raised"), .str (Str.ofString "BadLine"), .tuple [.int (k : Nat), .str (Str.ofString "row")]]) (.cons (.str _) (.cons (.str _) (.cons ca .nil)))
  refine ⟨szl 2 (by omega), fun t3 ht3 => ?_⟩
  have gc := gb.new ht3 (o := .lst [.ref f, .ref t2])
  have ec : Ex _ _ := gb.fr ht3 (o := .lst [.ref f, .ref t2])
  have hall := (ea.trans eb).trans ec
  have tkl : ((rs.map PyData.tuple).take k).length = k := by rw [List.length_take, List.length_map]; omega
  refine q _ _ _ _ _ _ _ gc upd_same (.lst (hall _ _ h9) (ex_dta hall hd9)) (ex_dt ec _ _ cb) (fun l => ?_) (lst_fit (by rw [List.length_append, List.length_cons]; omega) fun d hd => ?_) (fun ds h => ?_) (by simp [nodes, nodesL])
  · unfold askD
    dsimp only
    rw [first_app hbad (fun x hx => (hgood x (List.mem_of_mem_take hx)).1), tkl, Nat.zero_add]
    rfl
  · rcases List.mem_append.mp hd with hd | hd
    · exact (hgood d (List.mem_of_mem_take hd)).2
    · rcases List.mem_cons.mp hd with rfl | hd
      · exact hfit
      · exact hfl d hd
  · have h : (rs.map PyData.tuple).take k ++ bd :: tl = ds := by injection h
    rw [← h, List.length_append, List.length_cons]; omega
end
end K21
/-! defs that are called while an exception is handled and handed over to them; list.count of flat things -/
namespace Hx
open PySem PySem.Spec PyProof.Rows L2 L2H
/-- such a def: p, the exception's object, stands still -/
structure FnP (P : Program) (w : World) (K : PySem.W.Frag) (mg : Str → Option Value) (base : Heap) (k : Nat) (f : Addr) (fd : FuncData) (ps : List Str) (p : Addr × Obj) (sp : Sp) : Prop where
  len : ∀ vs H Q E, sp vs H Q E → vs.length = ps.length
  run : ∀ (A : Around) (outer : List Env) (s : Shared) (H : Hp) (args : Args) (us : List Value) (vs : List V) (Q : VK), RoomH k A → PinOk outer H s p → Env0 P w K mg base A outer s H → BindsTo s fd args (ps.zip us) → Vals vs us → sp vs H Q E0 →
    codeAny (model P w) A (.call (.ref f) args) (CR CX0 outer P w H s Q E0) s
section
variable {P : Program} {w : World} {K : PySem.W.Frag} {mg : Str → Option Value} {base : Heap}
theorem fn_ofP {k : Nat} {f : Addr} {x qual : Str} {params : Arguments} {body : List Stmt} {scope : Scope} {fd : FuncData} {N ps : List Str} {sp : Sp} {p : Addr × Obj} (F : FunD K x qual params body scope [] [] f fd) (S : FnScope N ps scope)
    (len : ∀ vs H Q E, sp vs H Q E → vs.length = ps.length)
    (hbody : ∀ (cdv : Value) (A : Around) (outer : List Env) (s : Shared) (H : Hp) (vs : List V) (Q : VK), RoomH k (A.deeper (envOfC qual scope s.heap.objs.size f cdv)) → sp vs H Q E0 →
      ∃ t, PSs (cxH CX0 P w K mg base N qual scope f cdv A outer s H E0 p).nox body t ∧ t { nx := fun _ H' => Q .non H', rt := Q } (L2.start N vs) H) : FnP P w K mg base (k + 1) f fd ps p sp := by
  obtain ⟨oc, od, dV, kV, doc, pm, an, cdv, ct, osl, rfl, lk, hcd, _, _⟩ := F.ex
  refine ⟨len, fun A outer s H args us vs Q hr hpin e0 hb r hsp => ?_⟩
  have KX : K.In s.heap := e0.mod.kin.keeps fun b o e => (e0.bs b o e).1
  have lim : s.heap.NoLimit := e0.mod.nolimit.keeps fun b o e => (e0.bs b o e).1
  refine codeAny_call_function hr.depth (KX _ _ lk) rfl S.co S.gen rfl (PySem.W.codeRec_of KX hcd) (hb _ _ _ _ ?_)
  refine wpAny_newFunctionEnv_cells S.kind (fun ⟨n, v⟩ hy => ?_) fun env he s1 x1 => ?_
  · rcases S.par n (List.of_mem_zip hy).1 with q | q
    · exact .inl q
    · exact .inr ⟨q, PySem.W.cellsFrom_some _ _ _ (.inl q)⟩
  subst he
  refine ⟨lim.keeps x1.toInCall.keep, codeAny_func ?_⟩
  obtain ⟨t, ht, hq⟩ := hbody cdv A outer s H vs Q (hr.deeper _) hsp
  have Iv : Inv (cxH CX0 P w K mg base N qual scope f cdv A outer s H E0 p) [] (L2.start N vs) H s1 := inv_startH S hpin e0 (len _ _ _ _ hsp) r x1
  refine wpAny_mono (ht.nox.run [] s1 (L2.start N vs) H _ Iv hq) (fun fl s' hs => ?_) fun e s' hs => hs
  have fin : ∀ {σ' : L2.St} {H' : Hp} {v : V} {u : Value}, Inv (cxH CX0 P w K mg base N qual scope f cdv A outer s H E0 p) [] σ' H' s' → RelV v u → Q v H' → CE outer P w H s Q u s' :=
    fun {σ' H' v u} J rv q => ⟨v, H', J.os, J.bare, J.base, J.hok, rv, q⟩
  cases fl with
  | ret u => obtain ⟨v, σ', H', J, rv, q⟩ := hs; exact fin J rv q
  | next => obtain ⟨σ', H', J, q⟩ := hs; exact fin (v := V.non) (u := Value.none) J rfl q
  | brk => obtain ⟨_, _, _, q⟩ := hs; exact False.elim q
  | cont => obtain ⟨_, _, _, q⟩ := hs; exact False.elim q
structure CalP (P : Program) (w : World) (K : PySem.W.Frag) (mg : Str → Option Value) (base : Heap) (k : Nat) (x : Str) (ps : List Str) (p : Addr × Obj) (sp : Sp) : Prop where
  g : mg x = some (.ref (He.ga K x))
  ex : ∃ fd, PySem.W.keepIn K (.ref (He.ga K x)) = true ∧ FnP P w K mg base k (He.ga K x) fd ps p sp ∧ Binds K fd ps []
theorem mkCalP {x : Str} {st : Stmt} {N ps : List Str} {k : Nat} {sp : Sp} {p : Addr × Obj} (g : mg x = some (.ref (He.ga K x))) (d : ∃ fd, FunD K x x (defArgs st) (defBody st) (defScope st) [] [] (He.ga K x) fd) (sc : FnScope N ps (defScope st))
    (hb : ∀ (kV doc pm : Value) (an : Option Addr) (cdv ct : Value) (us : List Value), us.length = ps.length → bindArgs (PySem.W.fnOf x x (defArgs st) (defBody st) (defScope st) .none kV doc pm an cdv ct) ⟨us, []⟩ = pure (ps.zip us))
    (len : ∀ vs H Q E, sp vs H Q E → vs.length = ps.length)
    (body : ∀ (cdv : Value) (A : Around) (outer : List Env) (s : Shared) (H : Hp) (vs : List V) (Q : VK), RoomH k (A.deeper (envOfC x (defScope st) s.heap.objs.size (He.ga K x) cdv)) → sp vs H Q E0 →
      ∃ t, PSs (cxH CX0 P w K mg base N x (defScope st) (He.ga K x) cdv A outer s H E0 p).nox (defBody st) t ∧ t { nx := fun _ H' => Q .non H', rt := Q } (L2.start N vs) H) : CalP P w K mg base (k + 1) x ps p sp := by
  obtain ⟨fd, F⟩ := d
  exact ⟨g, fd, F.kp, fn_ofP F sc len body, F.bindsN hb⟩
end
section
variable {X : Cx}
theorem pe_calP {k : Nat} {x : Str} {ps : List Str} {sp : Sp} {p : Addr × Obj} {q pos : Pos} {e : Expr} {es : List Expr} {t : TA} (C : CalP X.prog X.w X.K X.mg X.base k x ps p sp) (hp : p ∈ X.pn) (hr : RoomH k X.A)
    (ha : PA X (e :: es) t) (hg : Gl X x := by rfl) (hdb : (x == ("__debug__" : Str)) = false := by decide) (he : starEach (e :: es) X.env = (false, eval e X.env) :: starEach es X.env := by rfl) (hpl : (backTo pos (starEach es X.env)).any (·.1) = false := by rfl) :
    PE X (.Call (.Name x q) (e :: es) [] pos) (tCall sp [] E0 t) := by
  obtain ⟨fd, kp, F, hb⟩ := C.ex
  refine ⟨fun pq s σ H Q Iv h => ?_⟩
  refine wpAny_Call_Name_kw (ld_glob Iv hg C.g ?_ hdb)
  refine PySem.W.callWith_K (h₀ := X.base) Iv.ok.mod.kin kp (thn (ha.run pos pq s σ H _ Iv h) fun us s1 ⟨vs, H1, I1, r, q⟩ => ⟨I1.kIn, ?_⟩) he hpl
  replace q : sp (vs ++ []) H1 Q E0 := q
  rw [List.append_nil] at q
  have hl : us.length = ps.length := by rw [← r.length]; exact F.len _ _ _ _ q
  have b := hb s1 us I1.kIn (by rw [List.append_nil]; exact hl)
  rw [List.append_nil] at b
  have P1 := I1.pin p (List.mem_append_left _ hp)
  have hpin : PinOk X.stack H1 s1 p := ⟨P1.1, P1.2.1, fun hm => (List.mem_cons.mp (I1.stkSub p.1 hm)).elim P1.2.2.1 P1.2.2.2.1, P1.2.2.2.2⟩
  refine wpAny_call (codeAny_mono (F.run X.A X.stack s1 H1 ⟨us, []⟩ us vs Q hr hpin I1.env0 b r q) fun r s' hq => ?_)
  cases r with
  | error e => exact False.elim hq
  | ok fl =>
    cases fl with
    | ret u => exact I1.after hq
    | next => exact False.elim hq
    | brk => exact False.elim hq
    | cont => exact False.elim hq
/-- isinstance(e, c), e the exception at hand -/
theorem isiP {K : PySem.W.Frag} {a D : Addr} {oe : Obj} (C : ExcC K D) (hp : (a, oe) ∈ X.pn) {d : Option Addr} {fs : List (Str × V)} (hc : oe.cls = .ref D) (hd : oe.dict = d) (hf : ∃ vs, oe.data = .fields vs) (hK : X.K = K := by rfl) :
    CallR X (.builtin "isinstance") (fun xs H Q => ∃ (c : V) (cv : Value) (b : Bool) (dd : Addr), xs = [.ref a, c] ∧ d = some dd ∧ H dd = some (.xd fs) ∧ (∀ u, RelV c u → u = cv) ∧ PySem.W.kitOne K (.ref D) cv = some b ∧ Q (.bl b) H) := by
  subst hK
  intro pq s σ H xs us Q Iv r h
  obtain ⟨c, cv, b, dd, rfl, ed, hdd, hcv, e, q⟩ := h
  cases r with
  | cons rx rr =>
    cases rr with
    | cons rt rr =>
      cases rr
      cases rx
      have ec := hcv _ rt
      subst ec
      obtain ⟨hget, _⟩ := Iv.pin (a, oe) (List.mem_append_left _ hp)
      obtain ⟨vs, hv⟩ := hf
      have hx : ObjOk X.prog X.w H s.heap dd (.xd fs) := Iv.hok dd _ hdd
      obtain ⟨mA, hns, _⟩ := hx
      obtain ⟨od, ho, _⟩ := lookIn_ns hns
      have J : PySem.W.InstAt s.heap a oe D (some od) := ⟨hget, hc, by unfold PySem.W.notCls; rw [hv] <;> rfl, by rw [hd, ed]; exact ho⟩
      have hcl : (PySem.W.clsIn X.K D).isSome = true := by
        obtain ⟨cd, hcd, _⟩ := PySem.W.any_some C.hd
        rw [hcd] <;> rfl
      exact PySem.W.kia_one (PySem.W.kitx_exc hcl C.hg C.hk C.hs C.ha C.hn C.ht C.hm) Iv.kIn J e (fun z => nomatch z) fun tk => ⟨.bl b, H, Iv.tok tk, rfl, q⟩
/-- e.f, e the exception at hand -/
theorem pe_atP {K : PySem.W.Frag} {a D : Addr} {oe : Obj} {d : Option Addr} {e : Expr} {te : TE} {pos : Pos} {n : Str} (C : ExcC K D) (hp : (a, oe) ∈ X.pn) (hc : oe.cls = .ref D) (hd : oe.dict = d) (hf : ∃ vs, oe.data = .fields vs) (hno : PySem.W.findIn K (.ref D) n = some none)
    (he : PE X e te) (hb : attributeBase e n X.env (eval e X.env) = eval e X.env := by rfl) (hK : X.K = K := by rfl) :
    PE X (.Attribute e n pos) (fun σ H Q => te σ H fun x H1 => x = .ref a ∧ ∃ (dd : Addr) (fs : List (Str × V)) (v : V), d = some dd ∧ H1 dd = some (.xd fs) ∧ fs.lookup n = some v ∧ Q v H1) := by
  subst hK
  refine ⟨fun pq s σ H Q Iv h => ?_⟩
  refine attr_of hb (thn (he.run pq s σ H _ Iv h) fun u s1 hh => ?_)
  obtain ⟨x, H1, I1, rx, ex, dd, fs, v, ed, ea, l, q⟩ := hh
  subst ex
  obtain rfl : u = Value.ref a := rx
  obtain ⟨hget, _⟩ := I1.pin (a, oe) (List.mem_append_left _ hp)
  obtain ⟨vs, hv⟩ := hf
  have hx : ObjOk X.prog X.w H1 s1.heap dd (.xd fs) := I1.hok dd _ ea
  obtain ⟨mA, hns, hr⟩ := hx
  obtain ⟨od, ho, hl⟩ := lookIn_ns hns
  obtain ⟨u, hu, ru⟩ := RelO.some_of (v := v) (o := mA n) (by rw [← l]; exact hr n)
  have J : PySem.W.InstAt s1.heap a oe D (some od) := ⟨hget, hc, by unfold PySem.W.notCls; rw [hv] <;> rfl, by rw [hd, ed]; exact ho⟩
  exact HandSPX.exc_get I1.kIn J C.hg C.hk C.hs (PySem.W.findObj_own C.hd hno rfl (by rw [hl, hu])) (handed_of ru) ⟨v, H1, I1.tok _, ru, q⟩
/-- xs.count(y), flat things -/
def rCntF (K : PySem.W.Frag) : V → List V → Hp → VK → Prop := fun x xs H Q => ∃ (p : Addr) (ys : List V) (y : V), x = .ref p ∧ xs = [y] ∧ SqL K H p ys ∧ flatV y = true ∧ ys.all flatV = true ∧ Q (.int (ys.countP (fun z => eqV z y) : Nat)) H
theorem count_eqU {x : V} : ∀ {xs : List V} {us : List Value}, Vals xs us → xs.all flatV = true → us.countP (eqU x) = xs.countP fun y => eqV y x
  | _, _, .nil, _ => rfl
  | _, _, .cons r t, f => by
    rw [List.all_cons, Bool.and_eq_true] at f
    rw [List.countP_cons, List.countP_cons, count_eqU t f.2, eqU_of r f.1]
theorem cntF {K : PySem.W.Frag} (hK : X.K = K := by rfl) : MtR X "list.count" (rCntF K) := by
  subst hK
  intro pq s σ H x xs v us Q Iv rx rxs h
  obtain ⟨p, ys, y, rfl, rfl, hs, fy, fa, q⟩ := h
  cases rx
  obtain ⟨u, rfl, ru⟩ := rxs.one
  obtain ⟨its, rv, ⟨⟨cls, dd, data, sl⟩, n, ho, hc, hdn, hd⟩, hlen⟩ := Iv.list hs
  simp only at hc hd
  subst hc hd
  refine call_meets PySem.F.slot_list_count ⟨_, ho, rfl⟩ PySem.F.entry_list_count (PySem.F.args_list_count_2 _ _)
    (SeqAt.list_countAt p its.toArray n dd sl u (eqU y)) ⟨ho, fun z hz => mem_eqAt ru fy rv fa z (by simpa using hz), ?_⟩
  refine ⟨.int (ys.countP (fun z => eqV z y) : Nat), H, Iv.tok _, ⟨s.toks, ?_⟩, q⟩
  show Value.int ((its.toArray.toList.countP (eqU y) : Nat) : Int) s.toks = _
  rw [show its.toArray.toList = its from rfl, count_eqU rv fa]
end
end Hx
namespace K21
open PySem PySem.Spec PyProof.Rows L2 Hx Hd
open Evl (pss_cut tCut ex_l ex_t)
open M21 L2H
theorem pss_noX {X : Cx} {st : List Stmt} : PSs X st (fun _ _ _ => False) := ⟨fun _ _ _ _ _ _ h => h.elim⟩
theorem ps_no {X : Cx} {st : Stmt} : PS X st (fun _ _ _ => False) := ⟨fun _ _ _ _ _ _ h => h.elim⟩
section
variable {P : Program} {w : World} {K : PySem.W.Frag} {mg : Str → Option Value} {base : Heap}
abbrev N_law_named : List Str := ["error", "names", "fits"]
theorem sc_law_named : FnScope N_law_named ["error"] (defScope (top 38)) := ⟨rfl, rfl, rfl, by decide +kernel, rfl, by decide +kernel, by decide +kernel⟩
abbrev N_law_attributes : List Str := ["e", "name"]
theorem sc_law_attributes : FnScope N_law_attributes ["e", "name"] (defScope (top 39)) := ⟨rfl, rfl, rfl, by decide +kernel, rfl, by decide +kernel, by decide +kernel⟩
abbrev N_law_error : List Str := ["error", "name"]
theorem sc_law_error : FnScope N_law_error ["error"] (defScope (top 40)) := ⟨rfl, rfl, rfl, by decide +kernel, rfl, by decide +kernel, by decide +kernel⟩
/-- such an error at hand: its fields -/
def Hnd (d : Addr) (fs : List (Str × V)) (H : Hp) : Prop := H d = some (.xd fs)
def spNamed (a d : Addr) (fs : List (Str × V)) (nm : Str) : Sp := fun vs H Q _ => vs = [.ref a] ∧ Hnd d fs H ∧ ∀ H2, Ex H H2 → Q (.str nm) H2
def spAttr (a d : Addr) (fs : List (Str × V)) (nm : Str) (ys : List V) : Sp := fun vs H Q _ => vs = [.ref a, .str nm] ∧ Hnd d fs H ∧ ∀ p H2, H p = none → Ex H H2 → H2 p = some (.tup ys) → Q (.ref p) H2
def spErr (a d : Addr) (fs : List (Str × V)) (nm : Str) (ys : List V) : Sp := fun vs H Q _ => vs = [.ref a] ∧ Hnd d fs H ∧ ∀ l p H2, H l = none → H p = none → Ex H H2 → H2 p = some (.tup ys) → H2 l = some (.lst [.str "raised", .str nm, .ref p]) → Q (.ref l) H2

theorem ok_namedBadValue (T : Txt K mg) {a d : Addr} {oe : Obj} {fs : List (Str × V)} (hc : oe.cls = .ref (He.ga K "BadValue")) (hd : oe.dict = some d) (hf : ∃ vs, oe.data = .fields vs) :
    CalP P w K mg base 1 "_law_named" ["error"] (a, oe) (spNamed a d fs "BadValue") := by
  have hx := T.x_BadValue.excC
  refine mkCalP T.g__law_named T.d__law_named sc_law_named (fun _ _ _ _ _ _ us hl => match us, hl with | [_], _ => rfl) (fun vs H Q E h => ?_) fun cdv A outer s H vs Q hr h => ?_
  · obtain ⟨rfl, _⟩ := h; rfl
  obtain ⟨rfl, HH, q⟩ := h
  refine ⟨_, (pss_cons (ps_set (i := 1) sc_law_named.nd rfl (Or.inl rfl) pe_str)
    (pss_cons (ps_set (i := 2) sc_law_named.nd rfl (Or.inl rfl) (pe_lst (pa_cons (pe_callB (isiP (K := K) (fs := fs) hx (.head _) hc hd hf) (by rfl) T.n_isinstance (by decide +kernel) (pa_cons (pv 0) (pa_cons (pe_glob (v := .ref (He.ga K "BadText")) rfl T.g_BadText rfl) pa_nil))) (pa_cons (pe_callB (isiP (K := K) (fs := fs) hx (.head _) hc hd hf) (by rfl) T.n_isinstance (by decide +kernel) (pa_cons (pv 0) (pa_cons (pe_glob (v := .ref (He.ga K "BadSort")) rfl T.g_BadSort rfl) pa_nil))) (pa_cons (pe_callB (isiP (K := K) (fs := fs) hx (.head _) hc hd hf) (by rfl) T.n_isinstance (by decide +kernel) (pa_cons (pv 0) (pa_cons (pe_glob (v := .ref (He.ga K "BadLine")) rfl T.g_BadLine rfl) pa_nil))) (pa_cons (pe_callB (isiP (K := K) (fs := fs) hx (.head _) hc hd hf) (by rfl) T.n_isinstance (by decide +kernel) (pa_cons (pv 0) (pa_cons (pe_glob (v := .ref (He.ga K "BadModel")) rfl T.g_BadModel rfl) pa_nil))) pa_nil))))))
    (pss_cons (ps_set (i := 2) sc_law_named.nd rfl (Or.inl rfl) (pe_op op_cat (pv 2) (pe_lst (pa_cons (pe_callB (isiP (K := K) (fs := fs) hx (.head _) hc hd hf) (by rfl) T.n_isinstance (by decide +kernel) (pa_cons (pv 0) (pa_cons (pe_glob (v := .ref (He.ga K "BadPlan")) rfl T.g_BadPlan rfl) pa_nil))) (pa_cons (pe_callB (isiP (K := K) (fs := fs) hx (.head _) hc hd hf) (by rfl) T.n_isinstance (by decide +kernel) (pa_cons (pv 0) (pa_cons (pe_glob (v := .ref (He.ga K "BadValue")) rfl T.g_BadValue rfl) pa_nil))) (pa_cons (pe_callB (isiP (K := K) (fs := fs) hx (.head _) hc hd hf) (by rfl) T.n_isinstance (by decide +kernel) (pa_cons (pv 0) (pa_cons (pe_glob (v := .ref (He.ga K "BadEdit")) rfl T.g_BadEdit rfl) pa_nil))) (pa_cons (pe_callB (isiP (K := K) (fs := fs) hx (.head _) hc hd hf) (by rfl) T.n_isinstance (by decide +kernel) (pa_cons (pv 0) (pa_cons (pe_glob (v := .ref (He.ga K "TooMany")) rfl T.g_TooMany rfl) pa_nil))) pa_nil)))))))
    (pss_cons (ps_set (i := 2) sc_law_named.nd rfl (Or.inl rfl) (pe_op op_cat (pv 2) (pe_lst (pa_cons (pe_callB (isiP (K := K) (fs := fs) hx (.head _) hc hd hf) (by rfl) T.n_isinstance (by decide +kernel) (pa_cons (pv 0) (pa_cons (pe_glob (v := .ref (He.ga K "TooLong")) rfl T.g_TooLong rfl) pa_nil))) (pa_cons (pe_callB (isiP (K := K) (fs := fs) hx (.head _) hc hd hf) (by rfl) T.n_isinstance (by decide +kernel) (pa_cons (pv 0) (pa_cons (pe_glob (v := .ref (He.ga K "NothingToUndo")) rfl T.g_NothingToUndo rfl) pa_nil))) (pa_cons (pe_callB (isiP (K := K) (fs := fs) hx (.head _) hc hd hf) (by rfl) T.n_isinstance (by decide +kernel) (pa_cons (pv 0) (pa_cons (pe_glob (v := .ref (He.ga K "NothingToRedo")) rfl T.g_NothingToRedo rfl) pa_nil))) pa_nil))))))
    (pss_cut (ps_if (PW.pt (pw_or (pt_cmpR op_ne (pe_bm PySem.F.plainAttrs_list PySem.F.slot_list_count PySem.F.type_list_count (cntF (K := K)) (pv 2) (pa_cons pe_bl pa_nil)) pe_int (nomark _)) (pw_or (pt_not (pt_val (pe_callB (isiP (K := K) (fs := fs) hx (.head _) hc hd hf) (by rfl) T.n_isinstance (by decide +kernel) (pa_cons (pv 0) (pa_cons (pe_glob (v := .ref (He.ga K "HoldError")) rfl T.g_HoldError rfl) pa_nil))))) (pw_or1 (pt_not (pt_val (pe_callB (isiP (K := K) (fs := fs) hx (.head _) hc hd hf) (by rfl) T.n_isinstance (by decide +kernel) (pa_cons (pv 0) (pa_cons (pe_bltn (v := .ty "ValueError") rfl T.n_ValueError (by decide +kernel) rfl) pa_nil))))))))) (pss_one (ps_ret pe_str)) pss_nil)
    (pss_one (ps_ret (pe_ix (ixL (K := K)) (pe_split (pv 1) pe_str) (pe_bm PySem.F.plainAttrs_list PySem.F.slot_list_index PySem.F.type_list_index (idxL (K := K)) (pv 2) (pa_cons pe_bl pa_nil)) (fun _ _ => rfl))))))))), ?_⟩
  have szl : ∀ m : Nat, m ≤ 200000 → m ≤ sizeLine := fun m h => Nat.le_trans h (by decide)
  refine ⟨_, rfl, .ref (He.ga K "BadText"), .ref (He.ga K "BadText"), false, d, rfl, rfl, HH, fun u h => h, T.q_BadValue (.ref (He.ga K "BadText"), false) (.tail _ (.head _)), _, rfl, .ref (He.ga K "BadSort"), .ref (He.ga K "BadSort"), false, d, rfl, rfl, HH, fun u h => h, T.q_BadValue (.ref (He.ga K "BadSort"), false) (.tail _ (.tail _ (.head _))), _, rfl, .ref (He.ga K "BadLine"), .ref (He.ga K "BadLine"), false, d, rfl, rfl, HH, fun u h => h, T.q_BadValue (.ref (He.ga K "BadLine"), false) (.tail _ (.tail _ (.tail _ (.head _)))), _, rfl, .ref (He.ga K "BadModel"), .ref (He.ga K "BadModel"), false, d, rfl, rfl, HH, fun u h => h, T.q_BadValue (.ref (He.ga K "BadModel"), false) (.tail _ (.tail _ (.tail _ (.tail _ (.head _))))), szl 4 (by omega), fun p1 hp1 => ?_⟩
  have H1 : upd H p1 (.lst [.bl false, .bl false, .bl false, .bl false]) p1 = some (.lst [.bl false, .bl false, .bl false, .bl false]) := upd_same
  have e1 : Ex H (upd H p1 (.lst [.bl false, .bl false, .bl false, .bl false])) := Evl.Ex.new hp1
  have K1 := HH
  replace HH : upd H p1 (.lst [.bl false, .bl false, .bl false, .bl false]) d = some (.xd fs) := e1 _ _ HH
  generalize upd H p1 (.lst [.bl false, .bl false, .bl false, .bl false]) = Ha at H1 e1 HH ⊢
  refine ⟨_, rfl, _, rfl, .ref (He.ga K "BadPlan"), .ref (He.ga K "BadPlan"), false, d, rfl, rfl, HH, fun u h => h, T.q_BadValue (.ref (He.ga K "BadPlan"), false) (.tail _ (.tail _ (.tail _ (.tail _ (.tail _ (.head _)))))), _, rfl, .ref (He.ga K "BadValue"), .ref (He.ga K "BadValue"), true, d, rfl, rfl, HH, fun u h => h, T.q_BadValue (.ref (He.ga K "BadValue"), true) (.tail _ (.tail _ (.tail _ (.tail _ (.tail _ (.tail _ (.head _))))))), _, rfl, .ref (He.ga K "BadEdit"), .ref (He.ga K "BadEdit"), false, d, rfl, rfl, HH, fun u h => h, T.q_BadValue (.ref (He.ga K "BadEdit"), false) (.tail _ (.tail _ (.tail _ (.tail _ (.tail _ (.tail _ (.tail _ (.head _)))))))), _, rfl, .ref (He.ga K "TooMany"), .ref (He.ga K "TooMany"), false, d, rfl, rfl, HH, fun u h => h, T.q_BadValue (.ref (He.ga K "TooMany"), false) (.tail _ (.tail _ (.tail _ (.tail _ (.tail _ (.tail _ (.tail _ (.tail _ (.head _))))))))), szl 4 (by omega), fun p2 hp2 => ?_⟩
  have H2 : upd Ha p2 (.lst [.bl false, .bl true, .bl false, .bl false]) p2 = some (.lst [.bl false, .bl true, .bl false, .bl false]) := upd_same
  replace H1 : upd Ha p2 (.lst [.bl false, .bl true, .bl false, .bl false]) p1 = some (.lst [.bl false, .bl false, .bl false, .bl false]) := by rw [upd_ne (ne_of_none H1 hp2)]; exact H1
  have e2 : Ex H (upd Ha p2 (.lst [.bl false, .bl true, .bl false, .bl false])) := e1.trans (Evl.Ex.new hp2)
  generalize upd Ha p2 (.lst [.bl false, .bl true, .bl false, .bl false]) = Hb at H1 H2 e2 ⊢
  refine ⟨p1, p2, _, _, rfl, rfl, H1, H2, szl 8 (by omega), fun p3 hp3 => ?_⟩
  have H3 : upd Hb p3 (.lst ([.bl false, .bl false, .bl false, .bl false] ++ [.bl false, .bl true, .bl false, .bl false])) p3 = some (.lst ([.bl false, .bl false, .bl false, .bl false] ++ [.bl false, .bl true, .bl false, .bl false])) := upd_same
  have e3 : Ex H (upd Hb p3 (.lst ([.bl false, .bl false, .bl false, .bl false] ++ [.bl false, .bl true, .bl false, .bl false]))) := e2.trans (Evl.Ex.new hp3)
  generalize upd Hb p3 (.lst ([.bl false, .bl false, .bl false, .bl false] ++ [.bl false, .bl true, .bl false, .bl false])) = Hc at H3 e3 ⊢
  clear HH
  have HH := e3 _ _ K1
  refine ⟨_, rfl, _, rfl, .ref (He.ga K "TooLong"), .ref (He.ga K "TooLong"), false, d, rfl, rfl, HH, fun u h => h, T.q_BadValue (.ref (He.ga K "TooLong"), false) (.tail _ (.tail _ (.tail _ (.tail _ (.tail _ (.tail _ (.tail _ (.tail _ (.tail _ (.head _)))))))))), _, rfl, .ref (He.ga K "NothingToUndo"), .ref (He.ga K "NothingToUndo"), false, d, rfl, rfl, HH, fun u h => h, T.q_BadValue (.ref (He.ga K "NothingToUndo"), false) (.tail _ (.tail _ (.tail _ (.tail _ (.tail _ (.tail _ (.tail _ (.tail _ (.tail _ (.tail _ (.head _))))))))))), _, rfl, .ref (He.ga K "NothingToRedo"), .ref (He.ga K "NothingToRedo"), false, d, rfl, rfl, HH, fun u h => h, T.q_BadValue (.ref (He.ga K "NothingToRedo"), false) (.tail _ (.tail _ (.tail _ (.tail _ (.tail _ (.tail _ (.tail _ (.tail _ (.tail _ (.tail _ (.tail _ (.head _)))))))))))), szl 3 (by omega), fun p4 hp4 => ?_⟩
  have H4 : upd Hc p4 (.lst [.bl false, .bl false, .bl false]) p4 = some (.lst [.bl false, .bl false, .bl false]) := upd_same
  replace H3 : upd Hc p4 (.lst [.bl false, .bl false, .bl false]) p3 = some (.lst ([.bl false, .bl false, .bl false, .bl false] ++ [.bl false, .bl true, .bl false, .bl false])) := by rw [upd_ne (ne_of_none H3 hp4)]; exact H3
  have e4 : Ex H (upd Hc p4 (.lst [.bl false, .bl false, .bl false])) := e3.trans (Evl.Ex.new hp4)
  generalize upd Hc p4 (.lst [.bl false, .bl false, .bl false]) = Hd at H3 H4 e4 ⊢
  refine ⟨p3, p4, _, _, rfl, rfl, H3, H4, szl 11 (by omega), fun p5 hp5 => ?_⟩
  have H5 : upd Hd p5 (.lst (([.bl false, .bl false, .bl false, .bl false] ++ [.bl false, .bl true, .bl false, .bl false]) ++ [.bl false, .bl false, .bl false])) p5 = some (.lst [.bl false, .bl false, .bl false, .bl false, .bl false, .bl true, .bl false, .bl false, .bl false, .bl false, .bl false]) := upd_same
  have e5 : Ex H (upd Hd p5 (.lst (([.bl false, .bl false, .bl false, .bl false] ++ [.bl false, .bl true, .bl false, .bl false]) ++ [.bl false, .bl false, .bl false]))) := e4.trans (Evl.Ex.new hp5)
  generalize upd Hd p5 (.lst (([.bl false, .bl false, .bl false, .bl false] ++ [.bl false, .bl true, .bl false, .bl false]) ++ [.bl false, .bl false, .bl false])) = Hq at H5 e5 ⊢
  clear HH
  have HH := e5 _ _ K1
  refine ⟨fun σ' H' => σ' = [some (.ref a), some (.str "BadText BadSort BadLine BadModel BadPlan BadValue BadEdit TooMany TooLong NothingToUndo NothingToRedo"), some (.ref p5)] ∧ Hq = H', ?_, ?_⟩
  · refine ⟨_, rfl, .inl ⟨rfl, _, SqL.of H5⟩, p5, _, .bl true, rfl, rfl, SqL.of H5, rfl, rfl, rfl, false, rfl, ?_⟩
    exact ⟨_, rfl, .ref (He.ga K "HoldError"), .ref (He.ga K "HoldError"), true, d, rfl, rfl, HH, fun u h => h, T.q_BadValue (.ref (He.ga K "HoldError"), true) (.head _), _, rfl, _, rfl, .ty "ValueError", .type "ValueError", true, d, rfl, rfl, HH, fun u h => h, T.q_BadValue (.type "ValueError", true) (.tail _ (.tail _ (.tail _ (.tail _ (.tail _ (.tail _ (.tail _ (.tail _ (.tail _ (.tail _ (.tail _ (.tail _ (.tail _ (.head _)))))))))))))), _, rfl, rfl, rfl⟩
  · rintro σ' H' ⟨rfl, rfl⟩
    have hsp : (Txt.split (Str.ofString "BadText BadSort BadLine BadModel BadPlan BadValue BadEdit TooMany TooLong NothingToUndo NothingToRedo") (Str.ofString " "))[5]? = some (Str.ofString "BadValue") := by decide +kernel
    refine ⟨_, rfl, ⟨_, rfl⟩, _, _, rfl, rfl, by decide +kernel, Nat.le_trans (show _ ≤ 1000 by decide +kernel) (szl 1000 (by omega)), fun p6 hp6 => ?_⟩
    have H6 : upd Hq p6 (.lst ((Txt.split (Str.ofString "BadText BadSort BadLine BadModel BadPlan BadValue BadEdit TooMany TooLong NothingToUndo NothingToRedo") (Str.ofString " ")).map V.str)) p6 = some (.lst ((Txt.split (Str.ofString "BadText BadSort BadLine BadModel BadPlan BadValue BadEdit TooMany TooLong NothingToUndo NothingToRedo") (Str.ofString " ")).map V.str)) := upd_same
    replace H5 : upd Hq p6 (.lst ((Txt.split (Str.ofString "BadText BadSort BadLine BadModel BadPlan BadValue BadEdit TooMany TooLong NothingToUndo NothingToRedo") (Str.ofString " ")).map V.str)) p5 = some (.lst [.bl false, .bl false, .bl false, .bl false, .bl false, .bl true, .bl false, .bl false, .bl false, .bl false, .bl false]) := by rw [upd_ne (ne_of_none H5 hp6)]; exact H5
    have e6 : Ex H (upd Hq p6 (.lst ((Txt.split (Str.ofString "BadText BadSort BadLine BadModel BadPlan BadValue BadEdit TooMany TooLong NothingToUndo NothingToRedo") (Str.ofString " ")).map V.str))) := e5.trans (Evl.Ex.new hp6)
    generalize upd Hq p6 (.lst ((Txt.split (Str.ofString "BadText BadSort BadLine BadModel BadPlan BadValue BadEdit TooMany TooLong NothingToUndo NothingToRedo") (Str.ofString " ")).map V.str)) = Hf at H5 H6 e6 ⊢
    have hget : ((Txt.split (Str.ofString "BadText BadSort BadLine BadModel BadPlan BadValue BadEdit TooMany TooLong NothingToUndo NothingToRedo") (Str.ofString " ")).map V.str)[5]? = some (.str "BadValue") := by rw [List.getElem?_map, hsp]; rfl
    refine ⟨_, rfl, .inl ⟨rfl, _, SqL.of H5⟩, p5, _, .bl true, 5, .bl true, rfl, rfl, SqL.of H5, rfl, rfl, rfl, rfl, fun m z' hm hz' => ?_, p6, _, _, _, rfl, rfl, SqL.of H6, at_nat hget, q Hf e6⟩
    rcases m with _ | _ | _ | _ | _ | m
    · cases hz'; rfl
    · cases hz'; rfl
    · cases hz'; rfl
    · cases hz'; rfl
    · cases hz'; rfl
    · exact absurd hm (by omega)

theorem ok_attrBadValue (T : Txt K mg) {a d : Addr} {oe : Obj} {fs : List (Str × V)} {v1 : V} (l1 : fs.lookup ("name" : Str) = some v1) (hc : oe.cls = .ref (He.ga K "BadValue")) (hd : oe.dict = some d) (hf : ∃ vs, oe.data = .fields vs) :
    CalP P w K mg base 1 "_law_attributes" ["e", "name"] (a, oe) (spAttr a d fs "BadValue" [v1]) := by
  have hx := T.x_BadValue.excC
  refine mkCalP T.g__law_attributes T.d__law_attributes sc_law_attributes (fun _ _ _ _ _ _ us hl => match us, hl with | [_, _], _ => rfl) (fun vs H Q E h => ?_) fun cdv A outer s H vs Q hr h => ?_
  · obtain ⟨rfl, _⟩ := h; rfl
  obtain ⟨rfl, HH, q⟩ := h
  have szl : ∀ m : Nat, m ≤ 200000 → m ≤ sizeLine := fun m h => Nat.le_trans h (by decide)
  refine ⟨_, (pss_cons (ps_if (pt_cmpR (inL (K := K)) (pv 1) (pe_tup (pa_cons pe_str (pa_cons pe_str pa_nil))) (by rfl)) pss_noX pss_nil)
    (pss_cons (ps_if (pt_cmpR op_eq (pv 1) pe_str (nomark _)) pss_noX pss_nil)
    (pss_cons (ps_if (pt_cmpR (inL (K := K)) (pv 1) (pe_tup (pa_cons pe_str (pa_cons pe_str pa_nil))) (by rfl)) (pss_one (ps_ret (pe_tup (pa_cons (pe_atP hx (.head _) hc hd hf (T.f_BadValue "name" (.head _)) (pv 0)) pa_nil)))) pss_nil)
    pss_noX))), ?_⟩
  refine ⟨_, rfl, szl 2 (by omega), fun p1 hp1 => ⟨p1, _, rfl, .inr (SqT.of upd_same), rfl, rfl, false, congrArg V.bl (by decide +kernel), ?_⟩⟩
  have e1 := (Evl.Ex.refl H).trans (Evl.Ex.new hp1 (o := .tup [.str "BadText", .str "BadSort"]))
  generalize upd H p1 (.tup [.str "BadText", .str "BadSort"]) = H1 at e1 ⊢
  refine ⟨_, rfl, rfl, false, congrArg V.bl (by decide +kernel), ?_⟩
  refine ⟨_, rfl, szl 2 (by omega), fun p2 hp2 => ⟨p2, _, rfl, .inr (SqT.of upd_same), rfl, rfl, true, congrArg V.bl (by decide +kernel), ?_⟩⟩
  have e2 := e1.trans (Evl.Ex.new hp2 (o := .tup [.str "BadModel", .str "BadValue"]))
  generalize upd H1 p2 (.tup [.str "BadModel", .str "BadValue"]) = H2 at e2 ⊢
  exact ⟨_, rfl, rfl, d, _, _, rfl, e2 _ _ HH, l1, szl 1 (by omega), fun p hp => q p _ (Evl.fresh_back e2 hp) (e2.trans (Evl.Ex.new hp)) upd_same⟩

theorem ok_errorBadValue (T : Txt K mg) {a d : Addr} {oe : Obj} {fs : List (Str × V)} {v1 : V} (l1 : fs.lookup ("name" : Str) = some v1) (hc : oe.cls = .ref (He.ga K "BadValue")) (hd : oe.dict = some d) (hf : ∃ vs, oe.data = .fields vs) :
    CalP P w K mg base 2 "_law_error" ["error"] (a, oe) (spErr a d fs "BadValue" [v1]) := by
  have C1 := ok_namedBadValue (P := P) (w := w) (base := base) (fs := fs) T (a := a) hc hd hf
  have C2 := ok_attrBadValue (P := P) (w := w) (base := base) (fs := fs) T (a := a) l1 hc hd hf
  refine mkCalP T.g__law_error T.d__law_error sc_law_error (fun _ _ _ _ _ _ us hl => match us, hl with | [_], _ => rfl) (fun vs H Q E h => ?_) fun cdv A outer s H vs Q hr h => ?_
  · obtain ⟨rfl, _⟩ := h; rfl
  obtain ⟨rfl, HH, q⟩ := h
  refine ⟨_, (pss_cons (ps_set (i := 1) sc_law_error.nd rfl (Or.inl rfl) (pe_calP C1 (.head _) (hr.mono (by decide)) (pa_cons (pv 0) pa_nil)))
    (pss_one (ps_ret (pe_lst (pa_cons pe_str (pa_cons (pv 1) (pa_cons (pe_calP C2 (.head _) (hr.mono (by decide)) (pa_cons (pv 0) (pa_cons (pv 1) pa_nil))) pa_nil))))))), ?_⟩
  refine ⟨_, rfl, rfl, HH, fun H2 e2 => ?_⟩
  refine ⟨_, rfl, _, rfl, _, rfl, rfl, e2 _ _ HH, fun p H3 hp e3 hp3 => ⟨Nat.le_trans (show 3 ≤ 1000 by decide) (by decide), fun l hl => ?_⟩⟩
  have e23 := e2.trans e3
  refine q l p _ (Evl.fresh_back e23 hl) (Evl.fresh_back e2 hp) (e23.trans (Evl.Ex.new hl)) ?_ upd_same
  rw [upd_ne (ne_of_none hp3 hl)]; exact hp3

theorem ok_namedTooMany (T : Txt K mg) {a d : Addr} {oe : Obj} {fs : List (Str × V)} (hc : oe.cls = .ref (He.ga K "TooMany")) (hd : oe.dict = some d) (hf : ∃ vs, oe.data = .fields vs) :
    CalP P w K mg base 1 "_law_named" ["error"] (a, oe) (spNamed a d fs "TooMany") := by
  have hx := T.x_TooMany.excC
  refine mkCalP T.g__law_named T.d__law_named sc_law_named (fun _ _ _ _ _ _ us hl => match us, hl with | [_], _ => rfl) (fun vs H Q E h => ?_) fun cdv A outer s H vs Q hr h => ?_
  · obtain ⟨rfl, _⟩ := h; rfl
  obtain ⟨rfl, HH, q⟩ := h
  refine ⟨_, (pss_cons (ps_set (i := 1) sc_law_named.nd rfl (Or.inl rfl) pe_str)
    (pss_cons (ps_set (i := 2) sc_law_named.nd rfl (Or.inl rfl) (pe_lst (pa_cons (pe_callB (isiP (K := K) (fs := fs) hx (.head _) hc hd hf) (by rfl) T.n_isinstance (by decide +kernel) (pa_cons (pv 0) (pa_cons (pe_glob (v := .ref (He.ga K "BadText")) rfl T.g_BadText rfl) pa_nil))) (pa_cons (pe_callB (isiP (K := K) (fs := fs) hx (.head _) hc hd hf) (by rfl) T.n_isinstance (by decide +kernel) (pa_cons (pv 0) (pa_cons (pe_glob (v := .ref (He.ga K "BadSort")) rfl T.g_BadSort rfl) pa_nil))) (pa_cons (pe_callB (isiP (K := K) (fs := fs) hx (.head _) hc hd hf) (by rfl) T.n_isinstance (by decide +kernel) (pa_cons (pv 0) (pa_cons (pe_glob (v := .ref (He.ga K "BadLine")) rfl T.g_BadLine rfl) pa_nil))) (pa_cons (pe_callB (isiP (K := K) (fs := fs) hx (.head _) hc hd hf) (by rfl) T.n_isinstance (by decide +kernel) (pa_cons (pv 0) (pa_cons (pe_glob (v := .ref (He.ga K "BadModel")) rfl T.g_BadModel rfl) pa_nil))) pa_nil))))))
    (pss_cons (ps_set (i := 2) sc_law_named.nd rfl (Or.inl rfl) (pe_op op_cat (pv 2) (pe_lst (pa_cons (pe_callB (isiP (K := K) (fs := fs) hx (.head _) hc hd hf) (by rfl) T.n_isinstance (by decide +kernel) (pa_cons (pv 0) (pa_cons (pe_glob (v := .ref (He.ga K "BadPlan")) rfl T.g_BadPlan rfl) pa_nil))) (pa_cons (pe_callB (isiP (K := K) (fs := fs) hx (.head _) hc hd hf) (by rfl) T.n_isinstance (by decide +kernel) (pa_cons (pv 0) (pa_cons (pe_glob (v := .ref (He.ga K "BadValue")) rfl T.g_BadValue rfl) pa_nil))) (pa_cons (pe_callB (isiP (K := K) (fs := fs) hx (.head _) hc hd hf) (by rfl) T.n_isinstance (by decide +kernel) (pa_cons (pv 0) (pa_cons (pe_glob (v := .ref (He.ga K "BadEdit")) rfl T.g_BadEdit rfl) pa_nil))) (pa_cons (pe_callB (isiP (K := K) (fs := fs) hx (.head _) hc hd hf) (by rfl) T.n_isinstance (by decide +kernel) (pa_cons (pv 0) (pa_cons (pe_glob (v := .ref (He.ga K "TooMany")) rfl T.g_TooMany rfl) pa_nil))) pa_nil)))))))
    (pss_cons (ps_set (i := 2) sc_law_named.nd rfl (Or.inl rfl) (pe_op op_cat (pv 2) (pe_lst (pa_cons (pe_callB (isiP (K := K) (fs := fs) hx (.head _) hc hd hf) (by rfl) T.n_isinstance (by decide +kernel) (pa_cons (pv 0) (pa_cons (pe_glob (v := .ref (He.ga K "TooLong")) rfl T.g_TooLong rfl) pa_nil))) (pa_cons (pe_callB (isiP (K := K) (fs := fs) hx (.head _) hc hd hf) (by rfl) T.n_isinstance (by decide +kernel) (pa_cons (pv 0) (pa_cons (pe_glob (v := .ref (He.ga K "NothingToUndo")) rfl T.g_NothingToUndo rfl) pa_nil))) (pa_cons (pe_callB (isiP (K := K) (fs := fs) hx (.head _) hc hd hf) (by rfl) T.n_isinstance (by decide +kernel) (pa_cons (pv 0) (pa_cons (pe_glob (v := .ref (He.ga K "NothingToRedo")) rfl T.g_NothingToRedo rfl) pa_nil))) pa_nil))))))
    (pss_cut (ps_if (PW.pt (pw_or (pt_cmpR op_ne (pe_bm PySem.F.plainAttrs_list PySem.F.slot_list_count PySem.F.type_list_count (cntF (K := K)) (pv 2) (pa_cons pe_bl pa_nil)) pe_int (nomark _)) (pw_or (pt_not (pt_val (pe_callB (isiP (K := K) (fs := fs) hx (.head _) hc hd hf) (by rfl) T.n_isinstance (by decide +kernel) (pa_cons (pv 0) (pa_cons (pe_glob (v := .ref (He.ga K "HoldError")) rfl T.g_HoldError rfl) pa_nil))))) (pw_or1 (pt_not (pt_val (pe_callB (isiP (K := K) (fs := fs) hx (.head _) hc hd hf) (by rfl) T.n_isinstance (by decide +kernel) (pa_cons (pv 0) (pa_cons (pe_bltn (v := .ty "ValueError") rfl T.n_ValueError (by decide +kernel) rfl) pa_nil))))))))) (pss_one (ps_ret pe_str)) pss_nil)
    (pss_one (ps_ret (pe_ix (ixL (K := K)) (pe_split (pv 1) pe_str) (pe_bm PySem.F.plainAttrs_list PySem.F.slot_list_index PySem.F.type_list_index (idxL (K := K)) (pv 2) (pa_cons pe_bl pa_nil)) (fun _ _ => rfl))))))))), ?_⟩
  have szl : ∀ m : Nat, m ≤ 200000 → m ≤ sizeLine := fun m h => Nat.le_trans h (by decide)
  refine ⟨_, rfl, .ref (He.ga K "BadText"), .ref (He.ga K "BadText"), false, d, rfl, rfl, HH, fun u h => h, T.q_TooMany (.ref (He.ga K "BadText"), false) (.tail _ (.head _)), _, rfl, .ref (He.ga K "BadSort"), .ref (He.ga K "BadSort"), false, d, rfl, rfl, HH, fun u h => h, T.q_TooMany (.ref (He.ga K "BadSort"), false) (.tail _ (.tail _ (.head _))), _, rfl, .ref (He.ga K "BadLine"), .ref (He.ga K "BadLine"), false, d, rfl, rfl, HH, fun u h => h, T.q_TooMany (.ref (He.ga K "BadLine"), false) (.tail _ (.tail _ (.tail _ (.head _)))), _, rfl, .ref (He.ga K "BadModel"), .ref (He.ga K "BadModel"), false, d, rfl, rfl, HH, fun u h => h, T.q_TooMany (.ref (He.ga K "BadModel"), false) (.tail _ (.tail _ (.tail _ (.tail _ (.head _))))), szl 4 (by omega), fun p1 hp1 => ?_⟩
  have H1 : upd H p1 (.lst [.bl false, .bl false, .bl false, .bl false]) p1 = some (.lst [.bl false, .bl false, .bl false, .bl false]) := upd_same
  have e1 : Ex H (upd H p1 (.lst [.bl false, .bl false, .bl false, .bl false])) := Evl.Ex.new hp1
  have K1 := HH
  replace HH : upd H p1 (.lst [.bl false, .bl false, .bl false, .bl false]) d = some (.xd fs) := e1 _ _ HH
  generalize upd H p1 (.lst [.bl false, .bl false, .bl false, .bl false]) = Ha at H1 e1 HH ⊢
  refine ⟨_, rfl, _, rfl, .ref (He.ga K "BadPlan"), .ref (He.ga K "BadPlan"), false, d, rfl, rfl, HH, fun u h => h, T.q_TooMany (.ref (He.ga K "BadPlan"), false) (.tail _ (.tail _ (.tail _ (.tail _ (.tail _ (.head _)))))), _, rfl, .ref (He.ga K "BadValue"), .ref (He.ga K "BadValue"), false, d, rfl, rfl, HH, fun u h => h, T.q_TooMany (.ref (He.ga K "BadValue"), false) (.tail _ (.tail _ (.tail _ (.tail _ (.tail _ (.tail _ (.head _))))))), _, rfl, .ref (He.ga K "BadEdit"), .ref (He.ga K "BadEdit"), false, d, rfl, rfl, HH, fun u h => h, T.q_TooMany (.ref (He.ga K "BadEdit"), false) (.tail _ (.tail _ (.tail _ (.tail _ (.tail _ (.tail _ (.tail _ (.head _)))))))), _, rfl, .ref (He.ga K "TooMany"), .ref (He.ga K "TooMany"), true, d, rfl, rfl, HH, fun u h => h, T.q_TooMany (.ref (He.ga K "TooMany"), true) (.tail _ (.tail _ (.tail _ (.tail _ (.tail _ (.tail _ (.tail _ (.tail _ (.head _))))))))), szl 4 (by omega), fun p2 hp2 => ?_⟩
  have H2 : upd Ha p2 (.lst [.bl false, .bl false, .bl false, .bl true]) p2 = some (.lst [.bl false, .bl false, .bl false, .bl true]) := upd_same
  replace H1 : upd Ha p2 (.lst [.bl false, .bl false, .bl false, .bl true]) p1 = some (.lst [.bl false, .bl false, .bl false, .bl false]) := by rw [upd_ne (ne_of_none H1 hp2)]; exact H1
  have e2 : Ex H (upd Ha p2 (.lst [.bl false, .bl false, .bl false, .bl true])) := e1.trans (Evl.Ex.new hp2)
  generalize upd Ha p2 (.lst [.bl false, .bl false, .bl false, .bl true]) = Hb at H1 H2 e2 ⊢
  refine ⟨p1, p2, _, _, rfl, rfl, H1, H2, szl 8 (by omega), fun p3 hp3 => ?_⟩
  have H3 : upd Hb p3 (.lst ([.bl false, .bl false, .bl false, .bl false] ++ [.bl false, .bl false, .bl false, .bl true])) p3 = some (.lst ([.bl false, .bl false, .bl false, .bl false] ++ [.bl false, .bl false, .bl false, .bl true])) := upd_same
  have e3 : Ex H (upd Hb p3 (.lst ([.bl false, .bl false, .bl false, .bl false] ++ [.bl false, .bl false, .bl false, .bl true]))) := e2.trans (Evl.Ex.new hp3)
  generalize upd Hb p3 (.lst ([.bl false, .bl false, .bl false, .bl false] ++ [.bl false, .bl false, .bl false, .bl true])) = Hc at H3 e3 ⊢
  clear HH
  have HH := e3 _ _ K1
  refine ⟨_, rfl, _, rfl, .ref (He.ga K "TooLong"), .ref (He.ga K "TooLong"), false, d, rfl, rfl, HH, fun u h => h, T.q_TooMany (.ref (He.ga K "TooLong"), false) (.tail _ (.tail _ (.tail _ (.tail _ (.tail _ (.tail _ (.tail _ (.tail _ (.tail _ (.head _)))))))))), _, rfl, .ref (He.ga K "NothingToUndo"), .ref (He.ga K "NothingToUndo"), false, d, rfl, rfl, HH, fun u h => h, T.q_TooMany (.ref (He.ga K "NothingToUndo"), false) (.tail _ (.tail _ (.tail _ (.tail _ (.tail _ (.tail _ (.tail _ (.tail _ (.tail _ (.tail _ (.head _))))))))))), _, rfl, .ref (He.ga K "NothingToRedo"), .ref (He.ga K "NothingToRedo"), false, d, rfl, rfl, HH, fun u h => h, T.q_TooMany (.ref (He.ga K "NothingToRedo"), false) (.tail _ (.tail _ (.tail _ (.tail _ (.tail _ (.tail _ (.tail _ (.tail _ (.tail _ (.tail _ (.tail _ (.head _)))))))))))), szl 3 (by omega), fun p4 hp4 => ?_⟩
  have H4 : upd Hc p4 (.lst [.bl false, .bl false, .bl false]) p4 = some (.lst [.bl false, .bl false, .bl false]) := upd_same
  replace H3 : upd Hc p4 (.lst [.bl false, .bl false, .bl false]) p3 = some (.lst ([.bl false, .bl false, .bl false, .bl false] ++ [.bl false, .bl false, .bl false, .bl true])) := by rw [upd_ne (ne_of_none H3 hp4)]; exact H3
  have e4 : Ex H (upd Hc p4 (.lst [.bl false, .bl false, .bl false])) := e3.trans (Evl.Ex.new hp4)
  generalize upd Hc p4 (.lst [.bl false, .bl false, .bl false]) = Hd at H3 H4 e4 ⊢
  refine ⟨p3, p4, _, _, rfl, rfl, H3, H4, szl 11 (by omega), fun p5 hp5 => ?_⟩
  have H5 : upd Hd p5 (.lst (([.bl false, .bl false, .bl false, .bl false] ++ [.bl false, .bl false, .bl false, .bl true]) ++ [.bl false, .bl false, .bl false])) p5 = some (.lst [.bl false, .bl false, .bl false, .bl false, .bl false, .bl false, .bl false, .bl true, .bl false, .bl false, .bl false]) := upd_same
  have e5 : Ex H (upd Hd p5 (.lst (([.bl false, .bl false, .bl false, .bl false] ++ [.bl false, .bl false, .bl false, .bl true]) ++ [.bl false, .bl false, .bl false]))) := e4.trans (Evl.Ex.new hp5)
  generalize upd Hd p5 (.lst (([.bl false, .bl false, .bl false, .bl false] ++ [.bl false, .bl false, .bl false, .bl true]) ++ [.bl false, .bl false, .bl false])) = Hq at H5 e5 ⊢
  clear HH
  have HH := e5 _ _ K1
  refine ⟨fun σ' H' => σ' = [some (.ref a), some (.str "BadText BadSort BadLine BadModel BadPlan BadValue BadEdit TooMany TooLong NothingToUndo NothingToRedo"), some (.ref p5)] ∧ Hq = H', ?_, ?_⟩
  · refine ⟨_, rfl, .inl ⟨rfl, _, SqL.of H5⟩, p5, _, .bl true, rfl, rfl, SqL.of H5, rfl, rfl, rfl, false, rfl, ?_⟩
    exact ⟨_, rfl, .ref (He.ga K "HoldError"), .ref (He.ga K "HoldError"), true, d, rfl, rfl, HH, fun u h => h, T.q_TooMany (.ref (He.ga K "HoldError"), true) (.head _), _, rfl, _, rfl, .ty "ValueError", .type "ValueError", true, d, rfl, rfl, HH, fun u h => h, T.q_TooMany (.type "ValueError", true) (.tail _ (.tail _ (.tail _ (.tail _ (.tail _ (.tail _ (.tail _ (.tail _ (.tail _ (.tail _ (.tail _ (.tail _ (.tail _ (.head _)))))))))))))), _, rfl, rfl, rfl⟩
  · rintro σ' H' ⟨rfl, rfl⟩
    have hsp : (Txt.split (Str.ofString "BadText BadSort BadLine BadModel BadPlan BadValue BadEdit TooMany TooLong NothingToUndo NothingToRedo") (Str.ofString " "))[7]? = some (Str.ofString "TooMany") := by decide +kernel
    refine ⟨_, rfl, ⟨_, rfl⟩, _, _, rfl, rfl, by decide +kernel, Nat.le_trans (show _ ≤ 1000 by decide +kernel) (szl 1000 (by omega)), fun p6 hp6 => ?_⟩
    have H6 : upd Hq p6 (.lst ((Txt.split (Str.ofString "BadText BadSort BadLine BadModel BadPlan BadValue BadEdit TooMany TooLong NothingToUndo NothingToRedo") (Str.ofString " ")).map V.str)) p6 = some (.lst ((Txt.split (Str.ofString "BadText BadSort BadLine BadModel BadPlan BadValue BadEdit TooMany TooLong NothingToUndo NothingToRedo") (Str.ofString " ")).map V.str)) := upd_same
    replace H5 : upd Hq p6 (.lst ((Txt.split (Str.ofString "BadText BadSort BadLine BadModel BadPlan BadValue BadEdit TooMany TooLong NothingToUndo NothingToRedo") (Str.ofString " ")).map V.str)) p5 = some (.lst [.bl false, .bl false, .bl false, .bl false, .bl false, .bl false, .bl false, .bl true, .bl false, .bl false, .bl false]) := by rw [upd_ne (ne_of_none H5 hp6)]; exact H5
    have e6 : Ex H (upd Hq p6 (.lst ((Txt.split (Str.ofString "BadText BadSort BadLine BadModel BadPlan BadValue BadEdit TooMany TooLong NothingToUndo NothingToRedo") (Str.ofString " ")).map V.str))) := e5.trans (Evl.Ex.new hp6)
    generalize upd Hq p6 (.lst ((Txt.split (Str.ofString "BadText BadSort BadLine BadModel BadPlan BadValue BadEdit TooMany TooLong NothingToUndo NothingToRedo") (Str.ofString " ")).map V.str)) = Hf at H5 H6 e6 ⊢
    have hget : ((Txt.split (Str.ofString "BadText BadSort BadLine BadModel BadPlan BadValue BadEdit TooMany TooLong NothingToUndo NothingToRedo") (Str.ofString " ")).map V.str)[7]? = some (.str "TooMany") := by rw [List.getElem?_map, hsp]; rfl
    refine ⟨_, rfl, .inl ⟨rfl, _, SqL.of H5⟩, p5, _, .bl true, 7, .bl true, rfl, rfl, SqL.of H5, rfl, rfl, rfl, rfl, fun m z' hm hz' => ?_, p6, _, _, _, rfl, rfl, SqL.of H6, at_nat hget, q Hf e6⟩
    rcases m with _ | _ | _ | _ | _ | _ | _ | m
    · cases hz'; rfl
    · cases hz'; rfl
    · cases hz'; rfl
    · cases hz'; rfl
    · cases hz'; rfl
    · cases hz'; rfl
    · cases hz'; rfl
    · exact absurd hm (by omega)

theorem ok_attrTooMany (T : Txt K mg) {a d : Addr} {oe : Obj} {fs : List (Str × V)} {v1 : V} (l1 : fs.lookup ("word" : Str) = some v1) (hc : oe.cls = .ref (He.ga K "TooMany")) (hd : oe.dict = some d) (hf : ∃ vs, oe.data = .fields vs) :
    CalP P w K mg base 1 "_law_attributes" ["e", "name"] (a, oe) (spAttr a d fs "TooMany" [v1]) := by
  have hx := T.x_TooMany.excC
  refine mkCalP T.g__law_attributes T.d__law_attributes sc_law_attributes (fun _ _ _ _ _ _ us hl => match us, hl with | [_, _], _ => rfl) (fun vs H Q E h => ?_) fun cdv A outer s H vs Q hr h => ?_
  · obtain ⟨rfl, _⟩ := h; rfl
  obtain ⟨rfl, HH, q⟩ := h
  have szl : ∀ m : Nat, m ≤ 200000 → m ≤ sizeLine := fun m h => Nat.le_trans h (by decide)
  refine ⟨_, (pss_cons (ps_if (pt_cmpR (inL (K := K)) (pv 1) (pe_tup (pa_cons pe_str (pa_cons pe_str pa_nil))) (by rfl)) pss_noX pss_nil)
    (pss_cons (ps_if (pt_cmpR op_eq (pv 1) pe_str (nomark _)) pss_noX pss_nil)
    (pss_cons (ps_if (pt_cmpR (inL (K := K)) (pv 1) (pe_tup (pa_cons pe_str (pa_cons pe_str pa_nil))) (by rfl)) pss_noX pss_nil)
    (pss_cons (ps_if (pt_cmpR op_eq (pv 1) pe_str (nomark _)) pss_noX pss_nil)
    (pss_cons (ps_if (pt_cmpR (inL (K := K)) (pv 1) (pe_tup (pa_cons pe_str (pa_cons pe_str pa_nil))) (by rfl)) (pss_one (ps_ret (pe_tup (pa_cons (pe_atP hx (.head _) hc hd hf (T.f_TooMany "word" (.head _)) (pv 0)) pa_nil)))) pss_nil)
    pss_noX))))), ?_⟩
  refine ⟨_, rfl, szl 2 (by omega), fun p1 hp1 => ⟨p1, _, rfl, .inr (SqT.of upd_same), rfl, rfl, false, congrArg V.bl (by decide +kernel), ?_⟩⟩
  have e1 := (Evl.Ex.refl H).trans (Evl.Ex.new hp1 (o := .tup [.str "BadText", .str "BadSort"]))
  generalize upd H p1 (.tup [.str "BadText", .str "BadSort"]) = H1 at e1 ⊢
  refine ⟨_, rfl, rfl, false, congrArg V.bl (by decide +kernel), ?_⟩
  refine ⟨_, rfl, szl 2 (by omega), fun p2 hp2 => ⟨p2, _, rfl, .inr (SqT.of upd_same), rfl, rfl, false, congrArg V.bl (by decide +kernel), ?_⟩⟩
  have e2 := e1.trans (Evl.Ex.new hp2 (o := .tup [.str "BadModel", .str "BadValue"]))
  generalize upd H1 p2 (.tup [.str "BadModel", .str "BadValue"]) = H2 at e2 ⊢
  refine ⟨_, rfl, rfl, false, congrArg V.bl (by decide +kernel), ?_⟩
  refine ⟨_, rfl, szl 2 (by omega), fun p3 hp3 => ⟨p3, _, rfl, .inr (SqT.of upd_same), rfl, rfl, true, congrArg V.bl (by decide +kernel), ?_⟩⟩
  have e3 := e2.trans (Evl.Ex.new hp3 (o := .tup [.str "BadEdit", .str "TooMany"]))
  generalize upd H2 p3 (.tup [.str "BadEdit", .str "TooMany"]) = H3 at e3 ⊢
  exact ⟨_, rfl, rfl, d, _, _, rfl, e3 _ _ HH, l1, szl 1 (by omega), fun p hp => q p _ (Evl.fresh_back e3 hp) (e3.trans (Evl.Ex.new hp)) upd_same⟩

theorem ok_errorTooMany (T : Txt K mg) {a d : Addr} {oe : Obj} {fs : List (Str × V)} {v1 : V} (l1 : fs.lookup ("word" : Str) = some v1) (hc : oe.cls = .ref (He.ga K "TooMany")) (hd : oe.dict = some d) (hf : ∃ vs, oe.data = .fields vs) :
    CalP P w K mg base 2 "_law_error" ["error"] (a, oe) (spErr a d fs "TooMany" [v1]) := by
  have C1 := ok_namedTooMany (P := P) (w := w) (base := base) (fs := fs) T (a := a) hc hd hf
  have C2 := ok_attrTooMany (P := P) (w := w) (base := base) (fs := fs) T (a := a) l1 hc hd hf
  refine mkCalP T.g__law_error T.d__law_error sc_law_error (fun _ _ _ _ _ _ us hl => match us, hl with | [_], _ => rfl) (fun vs H Q E h => ?_) fun cdv A outer s H vs Q hr h => ?_
  · obtain ⟨rfl, _⟩ := h; rfl
  obtain ⟨rfl, HH, q⟩ := h
  refine ⟨_, (pss_cons (ps_set (i := 1) sc_law_error.nd rfl (Or.inl rfl) (pe_calP C1 (.head _) (hr.mono (by decide)) (pa_cons (pv 0) pa_nil)))
    (pss_one (ps_ret (pe_lst (pa_cons pe_str (pa_cons (pv 1) (pa_cons (pe_calP C2 (.head _) (hr.mono (by decide)) (pa_cons (pv 0) (pa_cons (pv 1) pa_nil))) pa_nil))))))), ?_⟩
  refine ⟨_, rfl, rfl, HH, fun H2 e2 => ?_⟩
  refine ⟨_, rfl, _, rfl, _, rfl, rfl, e2 _ _ HH, fun p H3 hp e3 hp3 => ⟨Nat.le_trans (show 3 ≤ 1000 by decide) (by decide), fun l hl => ?_⟩⟩
  have e23 := e2.trans e3
  refine q l p _ (Evl.fresh_back e23 hl) (Evl.fresh_back e2 hp) (e23.trans (Evl.Ex.new hl)) ?_ upd_same
  rw [upd_ne (ne_of_none hp3 hl)]; exact hp3

theorem ok_namedBadLine (T : Txt K mg) {a d : Addr} {oe : Obj} {fs : List (Str × V)} (hc : oe.cls = .ref (He.ga K "BadLine")) (hd : oe.dict = some d) (hf : ∃ vs, oe.data = .fields vs) :
    CalP P w K mg base 1 "_law_named" ["error"] (a, oe) (spNamed a d fs "BadLine") := by
  have hx := T.x_BadLine.excC
  refine mkCalP T.g__law_named T.d__law_named sc_law_named (fun _ _ _ _ _ _ us hl => match us, hl with | [_], _ => rfl) (fun vs H Q E h => ?_) fun cdv A outer s H vs Q hr h => ?_
  · obtain ⟨rfl, _⟩ := h; rfl
  obtain ⟨rfl, HH, q⟩ := h
  refine ⟨_, (pss_cons (ps_set (i := 1) sc_law_named.nd rfl (Or.inl rfl) pe_str)
    (pss_cons (ps_set (i := 2) sc_law_named.nd rfl (Or.inl rfl) (pe_lst (pa_cons (pe_callB (isiP (K := K) (fs := fs) hx (.head _) hc hd hf) (by rfl) T.n_isinstance (by decide +kernel) (pa_cons (pv 0) (pa_cons (pe_glob (v := .ref (He.ga K "BadText")) rfl T.g_BadText rfl) pa_nil))) (pa_cons (pe_callB (isiP (K := K) (fs := fs) hx (.head _) hc hd hf) (by rfl) T.n_isinstance (by decide +kernel) (pa_cons (pv 0) (pa_cons (pe_glob (v := .ref (He.ga K "BadSort")) rfl T.g_BadSort rfl) pa_nil))) (pa_cons (pe_callB (isiP (K := K) (fs := fs) hx (.head _) hc hd hf) (by rfl) T.n_isinstance (by decide +kernel) (pa_cons (pv 0) (pa_cons (pe_glob (v := .ref (He.ga K "BadLine")) rfl T.g_BadLine rfl) pa_nil))) (pa_cons (pe_callB (isiP (K := K) (fs := fs) hx (.head _) hc hd hf) (by rfl) T.n_isinstance (by decide +kernel) (pa_cons (pv 0) (pa_cons (pe_glob (v := .ref (He.ga K "BadModel")) rfl T.g_BadModel rfl) pa_nil))) pa_nil))))))
    (pss_cons (ps_set (i := 2) sc_law_named.nd rfl (Or.inl rfl) (pe_op op_cat (pv 2) (pe_lst (pa_cons (pe_callB (isiP (K := K) (fs := fs) hx (.head _) hc hd hf) (by rfl) T.n_isinstance (by decide +kernel) (pa_cons (pv 0) (pa_cons (pe_glob (v := .ref (He.ga K "BadPlan")) rfl T.g_BadPlan rfl) pa_nil))) (pa_cons (pe_callB (isiP (K := K) (fs := fs) hx (.head _) hc hd hf) (by rfl) T.n_isinstance (by decide +kernel) (pa_cons (pv 0) (pa_cons (pe_glob (v := .ref (He.ga K "BadValue")) rfl T.g_BadValue rfl) pa_nil))) (pa_cons (pe_callB (isiP (K := K) (fs := fs) hx (.head _) hc hd hf) (by rfl) T.n_isinstance (by decide +kernel) (pa_cons (pv 0) (pa_cons (pe_glob (v := .ref (He.ga K "BadEdit")) rfl T.g_BadEdit rfl) pa_nil))) (pa_cons (pe_callB (isiP (K := K) (fs := fs) hx (.head _) hc hd hf) (by rfl) T.n_isinstance (by decide +kernel) (pa_cons (pv 0) (pa_cons (pe_glob (v := .ref (He.ga K "TooMany")) rfl T.g_TooMany rfl) pa_nil))) pa_nil)))))))
    (pss_cons (ps_set (i := 2) sc_law_named.nd rfl (Or.inl rfl) (pe_op op_cat (pv 2) (pe_lst (pa_cons (pe_callB (isiP (K := K) (fs := fs) hx (.head _) hc hd hf) (by rfl) T.n_isinstance (by decide +kernel) (pa_cons (pv 0) (pa_cons (pe_glob (v := .ref (He.ga K "TooLong")) rfl T.g_TooLong rfl) pa_nil))) (pa_cons (pe_callB (isiP (K := K) (fs := fs) hx (.head _) hc hd hf) (by rfl) T.n_isinstance (by decide +kernel) (pa_cons (pv 0) (pa_cons (pe_glob (v := .ref (He.ga K "NothingToUndo")) rfl T.g_NothingToUndo rfl) pa_nil))) (pa_cons (pe_callB (isiP (K := K) (fs := fs) hx (.head _) hc hd hf) (by rfl) T.n_isinstance (by decide +kernel) (pa_cons (pv 0) (pa_cons (pe_glob (v := .ref (He.ga K "NothingToRedo")) rfl T.g_NothingToRedo rfl) pa_nil))) pa_nil))))))
    (pss_cut (ps_if (PW.pt (pw_or (pt_cmpR op_ne (pe_bm PySem.F.plainAttrs_list PySem.F.slot_list_count PySem.F.type_list_count (cntF (K := K)) (pv 2) (pa_cons pe_bl pa_nil)) pe_int (nomark _)) (pw_or (pt_not (pt_val (pe_callB (isiP (K := K) (fs := fs) hx (.head _) hc hd hf) (by rfl) T.n_isinstance (by decide +kernel) (pa_cons (pv 0) (pa_cons (pe_glob (v := .ref (He.ga K "HoldError")) rfl T.g_HoldError rfl) pa_nil))))) (pw_or1 (pt_not (pt_val (pe_callB (isiP (K := K) (fs := fs) hx (.head _) hc hd hf) (by rfl) T.n_isinstance (by decide +kernel) (pa_cons (pv 0) (pa_cons (pe_bltn (v := .ty "ValueError") rfl T.n_ValueError (by decide +kernel) rfl) pa_nil))))))))) (pss_one (ps_ret pe_str)) pss_nil)
    (pss_one (ps_ret (pe_ix (ixL (K := K)) (pe_split (pv 1) pe_str) (pe_bm PySem.F.plainAttrs_list PySem.F.slot_list_index PySem.F.type_list_index (idxL (K := K)) (pv 2) (pa_cons pe_bl pa_nil)) (fun _ _ => rfl))))))))), ?_⟩
  have szl : ∀ m : Nat, m ≤ 200000 → m ≤ sizeLine := fun m h => Nat.le_trans h (by decide)
  refine ⟨_, rfl, .ref (He.ga K "BadText"), .ref (He.ga K "BadText"), false, d, rfl, rfl, HH, fun u h => h, T.q_BadLine (.ref (He.ga K "BadText"), false) (.tail _ (.head _)), _, rfl, .ref (He.ga K "BadSort"), .ref (He.ga K "BadSort"), false, d, rfl, rfl, HH, fun u h => h, T.q_BadLine (.ref (He.ga K "BadSort"), false) (.tail _ (.tail _ (.head _))), _, rfl, .ref (He.ga K "BadLine"), .ref (He.ga K "BadLine"), true, d, rfl, rfl, HH, fun u h => h, T.q_BadLine (.ref (He.ga K "BadLine"), true) (.tail _ (.tail _ (.tail _ (.head _)))), _, rfl, .ref (He.ga K "BadModel"), .ref (He.ga K "BadModel"), false, d, rfl, rfl, HH, fun u h => h, T.q_BadLine (.ref (He.ga K "BadModel"), false) (.tail _ (.tail _ (.tail _ (.tail _ (.head _))))), szl 4 (by omega), fun p1 hp1 => ?_⟩
  have H1 : upd H p1 (.lst [.bl false, .bl false, .bl true, .bl false]) p1 = some (.lst [.bl false, .bl false, .bl true, .bl false]) := upd_same
  have e1 : Ex H (upd H p1 (.lst [.bl false, .bl false, .bl true, .bl false])) := Evl.Ex.new hp1
  have K1 := HH
  replace HH : upd H p1 (.lst [.bl false, .bl false, .bl true, .bl false]) d = some (.xd fs) := e1 _ _ HH
  generalize upd H p1 (.lst [.bl false, .bl false, .bl true, .bl false]) = Ha at H1 e1 HH ⊢
  refine ⟨_, rfl, _, rfl, .ref (He.ga K "BadPlan"), .ref (He.ga K "BadPlan"), false, d, rfl, rfl, HH, fun u h => h, T.q_BadLine (.ref (He.ga K "BadPlan"), false) (.tail _ (.tail _ (.tail _ (.tail _ (.tail _ (.head _)))))), _, rfl, .ref (He.ga K "BadValue"), .ref (He.ga K "BadValue"), false, d, rfl, rfl, HH, fun u h => h, T.q_BadLine (.ref (He.ga K "BadValue"), false) (.tail _ (.tail _ (.tail _ (.tail _ (.tail _ (.tail _ (.head _))))))), _, rfl, .ref (He.ga K "BadEdit"), .ref (He.ga K "BadEdit"), false, d, rfl, rfl, HH, fun u h => h, T.q_BadLine (.ref (He.ga K "BadEdit"), false) (.tail _ (.tail _ (.tail _ (.tail _ (.tail _ (.tail _ (.tail _ (.head _)))))))), _, rfl, .ref (He.ga K "TooMany"), .ref (He.ga K "TooMany"), false, d, rfl, rfl, HH, fun u h => h, T.q_BadLine (.ref (He.ga K "TooMany"), false) (.tail _ (.tail _ (.tail _ (.tail _ (.tail _ (.tail _ (.tail _ (.tail _ (.head _))))))))), szl 4 (by omega), fun p2 hp2 => ?_⟩
  have H2 : upd Ha p2 (.lst [.bl false, .bl false, .bl false, .bl false]) p2 = some (.lst [.bl false, .bl false, .bl false, .bl false]) := upd_same
  replace H1 : upd Ha p2 (.lst [.bl false, .bl false, .bl false, .bl false]) p1 = some (.lst [.bl false, .bl false, .bl true, .bl false]) := by rw [upd_ne (ne_of_none H1 hp2)]; exact H1
  have e2 : Ex H (upd Ha p2 (.lst [.bl false, .bl false, .bl false, .bl false])) := e1.trans (Evl.Ex.new hp2)
  generalize upd Ha p2 (.lst [.bl false, .bl false, .bl false, .bl false]) = Hb at H1 H2 e2 ⊢
  refine ⟨p1, p2, _, _, rfl, rfl, H1, H2, szl 8 (by omega), fun p3 hp3 => ?_⟩
  have H3 : upd Hb p3 (.lst ([.bl false, .bl false, .bl true, .bl false] ++ [.bl false, .bl false, .bl false, .bl false])) p3 = some (.lst ([.bl false, .bl false, .bl true, .bl false] ++ [.bl false, .bl false, .bl false, .bl false])) := upd_same
  have e3 : Ex H (upd Hb p3 (.lst ([.bl false, .bl false, .bl true, .bl false] ++ [.bl false, .bl false, .bl false, .bl false]))) := e2.trans (Evl.Ex.new hp3)
  generalize upd Hb p3 (.lst ([.bl false, .bl false, .bl true, .bl false] ++ [.bl false, .bl false, .bl false, .bl false])) = Hc at H3 e3 ⊢
  clear HH
  have HH := e3 _ _ K1
  refine ⟨_, rfl, _, rfl, .ref (He.ga K "TooLong"), .ref (He.ga K "TooLong"), false, d, rfl, rfl, HH, fun u h => h, T.q_BadLine (.ref (He.ga K "TooLong"), false) (.tail _ (.tail _ (.tail _ (.tail _ (.tail _ (.tail _ (.tail _ (.tail _ (.tail _ (.head _)))))))))), _, rfl, .ref (He.ga K "NothingToUndo"), .ref (He.ga K "NothingToUndo"), false, d, rfl, rfl, HH, fun u h => h, T.q_BadLine (.ref (He.ga K "NothingToUndo"), false) (.tail _ (.tail _ (.tail _ (.tail _ (.tail _ (.tail _ (.tail _ (.tail _ (.tail _ (.tail _ (.head _))))))))))), _, rfl, .ref (He.ga K "NothingToRedo"), .ref (He.ga K "NothingToRedo"), false, d, rfl, rfl, HH, fun u h => h, T.q_BadLine (.ref (He.ga K "NothingToRedo"), false) (.tail _ (.tail _ (.tail _ (.tail _ (.tail _ (.tail _ (.tail _ (.tail _ (.tail _ (.tail _ (.tail _ (.head _)))))))))))), szl 3 (by omega), fun p4 hp4 => ?_⟩
  have H4 : upd Hc p4 (.lst [.bl false, .bl false, .bl false]) p4 = some (.lst [.bl false, .bl false, .bl false]) := upd_same
  replace H3 : upd Hc p4 (.lst [.bl false, .bl false, .bl false]) p3 = some (.lst ([.bl false, .bl false, .bl true, .bl false] ++ [.bl false, .bl false, .bl false, .bl false])) := by rw [upd_ne (ne_of_none H3 hp4)]; exact H3
  have e4 : Ex H (upd Hc p4 (.lst [.bl false, .bl false, .bl false])) := e3.trans (Evl.Ex.new hp4)
  generalize upd Hc p4 (.lst [.bl false, .bl false, .bl false]) = Hd at H3 H4 e4 ⊢
  refine ⟨p3, p4, _, _, rfl, rfl, H3, H4, szl 11 (by omega), fun p5 hp5 => ?_⟩
  have H5 : upd Hd p5 (.lst (([.bl false, .bl false, .bl true, .bl false] ++ [.bl false, .bl false, .bl false, .bl false]) ++ [.bl false, .bl false, .bl false])) p5 = some (.lst [.bl false, .bl false, .bl true, .bl false, .bl false, .bl false, .bl false, .bl false, .bl false, .bl false, .bl false]) := upd_same
  have e5 : Ex H (upd Hd p5 (.lst (([.bl false, .bl false, .bl true, .bl false] ++ [.bl false, .bl false, .bl false, .bl false]) ++ [.bl false, .bl false, .bl false]))) := e4.trans (Evl.Ex.new hp5)
  generalize upd Hd p5 (.lst (([.bl false, .bl false, .bl true, .bl false] ++ [.bl false, .bl false, .bl false, .bl false]) ++ [.bl false, .bl false, .bl false])) = Hq at H5 e5 ⊢
  clear HH
  have HH := e5 _ _ K1
  refine ⟨fun σ' H' => σ' = [some (.ref a), some (.str "BadText BadSort BadLine BadModel BadPlan BadValue BadEdit TooMany TooLong NothingToUndo NothingToRedo"), some (.ref p5)] ∧ Hq = H', ?_, ?_⟩
  · refine ⟨_, rfl, .inl ⟨rfl, _, SqL.of H5⟩, p5, _, .bl true, rfl, rfl, SqL.of H5, rfl, rfl, rfl, false, rfl, ?_⟩
    exact ⟨_, rfl, .ref (He.ga K "HoldError"), .ref (He.ga K "HoldError"), true, d, rfl, rfl, HH, fun u h => h, T.q_BadLine (.ref (He.ga K "HoldError"), true) (.head _), _, rfl, _, rfl, .ty "ValueError", .type "ValueError", true, d, rfl, rfl, HH, fun u h => h, T.q_BadLine (.type "ValueError", true) (.tail _ (.tail _ (.tail _ (.tail _ (.tail _ (.tail _ (.tail _ (.tail _ (.tail _ (.tail _ (.tail _ (.tail _ (.tail _ (.head _)))))))))))))), _, rfl, rfl, rfl⟩
  · rintro σ' H' ⟨rfl, rfl⟩
    have hsp : (Txt.split (Str.ofString "BadText BadSort BadLine BadModel BadPlan BadValue BadEdit TooMany TooLong NothingToUndo NothingToRedo") (Str.ofString " "))[2]? = some (Str.ofString "BadLine") := by decide +kernel
    refine ⟨_, rfl, ⟨_, rfl⟩, _, _, rfl, rfl, by decide +kernel, Nat.le_trans (show _ ≤ 1000 by decide +kernel) (szl 1000 (by omega)), fun p6 hp6 => ?_⟩
    have H6 : upd Hq p6 (.lst ((Txt.split (Str.ofString "BadText BadSort BadLine BadModel BadPlan BadValue BadEdit TooMany TooLong NothingToUndo NothingToRedo") (Str.ofString " ")).map V.str)) p6 = some (.lst ((Txt.split (Str.ofString "BadText BadSort BadLine BadModel BadPlan BadValue BadEdit TooMany TooLong NothingToUndo NothingToRedo") (Str.ofString " ")).map V.str)) := upd_same
    replace H5 : upd Hq p6 (.lst ((Txt.split (Str.ofString "BadText BadSort BadLine BadModel BadPlan BadValue BadEdit TooMany TooLong NothingToUndo NothingToRedo") (Str.ofString " ")).map V.str)) p5 = some (.lst [.bl false, .bl false, .bl true, .bl false, .bl false, .bl false, .bl false, .bl false, .bl false, .bl false, .bl false]) := by rw [upd_ne (ne_of_none H5 hp6)]; exact H5
    have e6 : Ex H (upd Hq p6 (.lst ((Txt.split (Str.ofString "BadText BadSort BadLine BadModel BadPlan BadValue BadEdit TooMany TooLong NothingToUndo NothingToRedo") (Str.ofString " ")).map V.str))) := e5.trans (Evl.Ex.new hp6)
    generalize upd Hq p6 (.lst ((Txt.split (Str.ofString "BadText BadSort BadLine BadModel BadPlan BadValue BadEdit TooMany TooLong NothingToUndo NothingToRedo") (Str.ofString " ")).map V.str)) = Hf at H5 H6 e6 ⊢
    have hget : ((Txt.split (Str.ofString "BadText BadSort BadLine BadModel BadPlan BadValue BadEdit TooMany TooLong NothingToUndo NothingToRedo") (Str.ofString " ")).map V.str)[2]? = some (.str "BadLine") := by rw [List.getElem?_map, hsp]; rfl
    refine ⟨_, rfl, .inl ⟨rfl, _, SqL.of H5⟩, p5, _, .bl true, 2, .bl true, rfl, rfl, SqL.of H5, rfl, rfl, rfl, rfl, fun m z' hm hz' => ?_, p6, _, _, _, rfl, rfl, SqL.of H6, at_nat hget, q Hf e6⟩
    rcases m with _ | _ | m
    · cases hz'; rfl
    · cases hz'; rfl
    · exact absurd hm (by omega)

theorem ok_attrBadLine (T : Txt K mg) {a d : Addr} {oe : Obj} {fs : List (Str × V)} {v1 v2 : V} (l1 : fs.lookup ("index" : Str) = some v1) (l2 : fs.lookup ("word" : Str) = some v2) (hc : oe.cls = .ref (He.ga K "BadLine")) (hd : oe.dict = some d) (hf : ∃ vs, oe.data = .fields vs) :
    CalP P w K mg base 1 "_law_attributes" ["e", "name"] (a, oe) (spAttr a d fs "BadLine" [v1, v2]) := by
  have hx := T.x_BadLine.excC
  refine mkCalP T.g__law_attributes T.d__law_attributes sc_law_attributes (fun _ _ _ _ _ _ us hl => match us, hl with | [_, _], _ => rfl) (fun vs H Q E h => ?_) fun cdv A outer s H vs Q hr h => ?_
  · obtain ⟨rfl, _⟩ := h; rfl
  obtain ⟨rfl, HH, q⟩ := h
  have szl : ∀ m : Nat, m ≤ 200000 → m ≤ sizeLine := fun m h => Nat.le_trans h (by decide)
  refine ⟨_, (pss_cons (ps_if (pt_cmpR (inL (K := K)) (pv 1) (pe_tup (pa_cons pe_str (pa_cons pe_str pa_nil))) (by rfl)) pss_noX pss_nil)
    (pss_cons (ps_if (pt_cmpR op_eq (pv 1) pe_str (nomark _)) (pss_one (ps_ret (pe_tup (pa_cons (pe_atP hx (.head _) hc hd hf (T.f_BadLine "index" (.head _)) (pv 0)) (pa_cons (pe_atP hx (.head _) hc hd hf (T.f_BadLine "word" (.tail _ (.head _))) (pv 0)) pa_nil))))) pss_nil)
    pss_noX)), ?_⟩
  refine ⟨_, rfl, szl 2 (by omega), fun p1 hp1 => ⟨p1, _, rfl, .inr (SqT.of upd_same), rfl, rfl, false, congrArg V.bl (by decide +kernel), ?_⟩⟩
  have e1 := (Evl.Ex.refl H).trans (Evl.Ex.new hp1 (o := .tup [.str "BadText", .str "BadSort"]))
  generalize upd H p1 (.tup [.str "BadText", .str "BadSort"]) = H1 at e1 ⊢
  refine ⟨_, rfl, rfl, true, congrArg V.bl (by decide +kernel), ?_⟩
  exact ⟨_, rfl, rfl, d, _, _, rfl, e1 _ _ HH, l1, _, rfl, rfl, d, _, _, rfl, e1 _ _ HH, l2, szl 2 (by omega), fun p hp => q p _ (Evl.fresh_back e1 hp) (e1.trans (Evl.Ex.new hp)) upd_same⟩

theorem ok_errorBadLine (T : Txt K mg) {a d : Addr} {oe : Obj} {fs : List (Str × V)} {v1 v2 : V} (l1 : fs.lookup ("index" : Str) = some v1) (l2 : fs.lookup ("word" : Str) = some v2) (hc : oe.cls = .ref (He.ga K "BadLine")) (hd : oe.dict = some d) (hf : ∃ vs, oe.data = .fields vs) :
    CalP P w K mg base 2 "_law_error" ["error"] (a, oe) (spErr a d fs "BadLine" [v1, v2]) := by
  have C1 := ok_namedBadLine (P := P) (w := w) (base := base) (fs := fs) T (a := a) hc hd hf
  have C2 := ok_attrBadLine (P := P) (w := w) (base := base) (fs := fs) T (a := a) l1 l2 hc hd hf
  refine mkCalP T.g__law_error T.d__law_error sc_law_error (fun _ _ _ _ _ _ us hl => match us, hl with | [_], _ => rfl) (fun vs H Q E h => ?_) fun cdv A outer s H vs Q hr h => ?_
  · obtain ⟨rfl, _⟩ := h; rfl
  obtain ⟨rfl, HH, q⟩ := h
  refine ⟨_, (pss_cons (ps_set (i := 1) sc_law_error.nd rfl (Or.inl rfl) (pe_calP C1 (.head _) (hr.mono (by decide)) (pa_cons (pv 0) pa_nil)))
    (pss_one (ps_ret (pe_lst (pa_cons pe_str (pa_cons (pv 1) (pa_cons (pe_calP C2 (.head _) (hr.mono (by decide)) (pa_cons (pv 0) (pa_cons (pv 1) pa_nil))) pa_nil))))))), ?_⟩
  refine ⟨_, rfl, rfl, HH, fun H2 e2 => ?_⟩
  refine ⟨_, rfl, _, rfl, _, rfl, rfl, e2 _ _ HH, fun p H3 hp e3 hp3 => ⟨Nat.le_trans (show 3 ≤ 1000 by decide) (by decide), fun l hl => ?_⟩⟩
  have e23 := e2.trans e3
  refine q l p _ (Evl.fresh_back e23 hl) (Evl.fresh_back e2 hp) (e23.trans (Evl.Ex.new hl)) ?_ upd_same
  rw [upd_ne (ne_of_none hp3 hl)]; exact hp3

end
end K21
namespace K21
open PySem PySem.Spec PyProof.Rows L2 Hx Hd
open Evl (pss_cut tCut ex_l ex_t)
open M21
section
variable {P : Program} {w : World} {K : PySem.W.Frag} {mg : Str → Option Value} {base : Heap}
def spBadLits : Sp := fun vs H Q _ => ∃ (s L a la : Addr) (us xs : List V) (ds ls : List PyData) (G : Hp), vs = [.ref s, .ref la, .ref a] ∧ Strm H s L ∧ Ex G H ∧ G s = none ∧ G a = some (.lst us) ∧ DtAll G us ds ∧ AtomsN ds ∧ 1 ≤ ds.length ∧
  G la = some (.lst xs) ∧ DtAll G xs ls ∧ LitsN ls ∧ ls.length ≤ 20 ∧
  ∀ v d G2 H2, Ga s L G H G2 H2 → Dt G2 v d → litsD d = false → fitB 3 d = true → (∀ ds, d = .list ds → ds.length ≤ 100) → Q v H2
abbrev N_law_bad_literals : List Str := ["stream", "literals", "atoms", "more", "kind", "at"]
theorem sc_law_bad_literals : FnScope N_law_bad_literals ["stream", "literals", "atoms"] (defScope (top 51)) := ⟨rfl, rfl, rfl, by decide +kernel, rfl, by decide +kernel, by decide +kernel⟩
theorem ok_badlits (T : Txt K mg) (C__law_next : Cal P w K mg base CX0 1 "_law_next" ["stream", "many"] spNext) (C__law_pick : Cal P w K mg base CX0 2 "_law_pick" ["stream", "rows"] (spPick K)) (C__law_denied : Cal P w K mg base CX0 1 "_law_denied" ["literal"] spDen)
    (C__law_bad_literal : Cal P w K mg base CX0 3 "_law_bad_literal" ["stream"] spBadLit) : Cal P w K mg base CX0 4 "_law_bad_literals" ["stream", "literals", "atoms"] spBadLits := by
  refine mkCal T.g__law_bad_literals T.d__law_bad_literals sc_law_bad_literals (fun _ _ _ _ _ _ us hl => match us, hl with | [_, _, _], _ => rfl) (fun vs H Q E h => ?_) fun cdv A outer s0 H vs Q E hr h => ?_
  · obtain ⟨_, _, _, _, _, _, _, _, _, rfl, _⟩ := h; rfl
  obtain ⟨s, L, a, la, us, xs, ds, ls, G, rfl, st, eG, gs, hus, hds, hat, hn, hla, hxs, hls, hll, q⟩ := h
  refine ⟨_, (pss_cut (ps_set (i := 3) sc_law_bad_literals.nd rfl (Or.inl rfl) (pe_op op_cat (pv 1) (pe_ifExp (pt_cmpR op_eq (pe_callB (lenL (K := K)) (by rfl) T.n_len PySem.boot_len (pa_cons (pv 1) pa_nil)) pe_int (nomark _)) (pe_lst (pa_cons (pe_tup (pa_cons (pe_ix (ixL (K := K)) (pv 2) pe_int (fun _ _ => rfl)) (pa_cons pe_bl pa_nil))) pa_nil)) (pe_lst pa_nil))))
      (pss_cons (ps_set (i := 4) sc_law_bad_literals.nd rfl (Or.inl rfl) (pe_cal (E := E0) C__law_next (hr.mono (by decide)) pass0 (pa_cons (pv 0) (pa_cons pe_int pa_nil))))
      (pss_cons (ps_if (pt_cmpR op_eq (pv 4) pe_int (nomark _)) (pss_one (ps_ret (pe_callTy (tupOf (K := K)) (by rfl) T.n_tuple (by decide +kernel) (pa_cons (pv 1) pa_nil)))) pss_nil)
      (pss_cons (ps_if (pt_cmpR op_eq (pv 4) pe_int (nomark _)) (pss_one (ps_ret (pe_op op_cat (pv 3) (pe_lst (pa_cons (pe_cal (E := E0) C__law_pick (hr.mono (by decide)) pass0 (pa_cons (pv 0) (pa_cons (pv 3) pa_nil))) pa_nil))))) pss_nil)
      (pss_cons (ps_if (pt_cmpR op_eq (pv 4) pe_int (nomark _)) (pss_one (ps_ret (pe_op op_cat (pv 3) (pe_lst (pa_cons (pe_cal (E := E0) C__law_denied (hr.mono (by decide)) pass0 (pa_cons (pe_cal (E := E0) C__law_pick (hr.mono (by decide)) pass0 (pa_cons (pv 0) (pa_cons (pv 3) pa_nil))) pa_nil)) pa_nil))))) pss_nil)
      (pss_cons (ps_if (pt_cmpR op_eq (pv 4) pe_int (nomark _)) (pss_cons (ps_set (i := 5) sc_law_bad_literals.nd rfl (Or.inl rfl) (pe_cal (E := E0) C__law_next (hr.mono (by decide)) pass0 (pa_cons (pv 0) (pa_cons (pe_op op_add (pe_callB (lenL (K := K)) (by rfl) T.n_len PySem.boot_len (pa_cons (pv 1) pa_nil)) pe_int) pa_nil))))
      (pss_one (ps_ret (pe_op op_cat (pe_op op_cat (pe_slice (slL (K := K)) (pv 1) po_none (po_some (pv 5))) (pe_lst (pa_cons (pe_cal (E := E0) C__law_bad_literal (hr.mono (by decide)) pass0 (pa_cons (pv 0) pa_nil)) pa_nil))) (pe_slice (slL (K := K)) (pv 1) (po_some (pv 5)) po_none))))) pss_nil)
      (pss_one (ps_ret (pe_cal (E := E0) C__law_pick (hr.mono (by decide)) pass0 (pa_cons (pv 0) (pa_cons (pe_tup (pa_cons pe_non (pa_cons pe_dnewK (pa_cons pe_str (pa_cons pe_int pa_nil))))) pa_nil))))))))))), ?_⟩
  have xl := dta_len hxs
  have ul := dta_len hds
  have g0 := Ga.refl eG st gs
  have f2 : ∀ l ∈ ls, fitB 2 l = true := fun l h => lit_fit (hls.1 l h)
  refine ⟨fun σ' H' => ∃ G' m zs ms, σ' = [some (.ref s), some (.ref la), some (.ref a), some (.ref m), none, none] ∧ Ga s L G H G' H' ∧ G' m = some (.lst zs) ∧ DtAll G' zs ms ∧ (∀ l ∈ ms, litD l = true) ∧ 1 ≤ ms.length ∧ ms.length ≤ 21, ?_, ?_⟩
  · refine ⟨_, rfl, _, rfl, la, xs, rfl, .inl (SqL.of (eG _ _ hla)), rfl, _, rfl, ?_⟩
    refine ite2 (fun h1 => ?_) (fun h1 => ?_)
    · have hx0 : us[0]? = some (us.getD 0 .non) := by rw [List.getD_eq_getElem?_getD, List.getElem?_eq_getElem (by omega)]; rfl
      obtain ⟨d0, hd1, hd2⟩ := dta_get hds hx0
      have ha0 := (hat.2 0 d0 hd1).1
      refine ⟨_, rfl, a, us, 0, _, rfl, rfl, SqL.of (eG _ _ hus), at_nat (i := 0) hx0, szl 2 (by omega), fun t1 ht1 => ?_⟩
      obtain ⟨g1, e1, c1⟩ := ga_tup g0 ht1 (xs := [us.getD 0 .non, .bl true]) (ds := [d0, .bool true]) (.cons hd2 (.cons (.bl _) .nil))
      refine ⟨szl 1 (by omega), fun t2 ht2 => ?_⟩
      have g2 := g1.new ht2 (o := .lst [.ref t1])
      have e2 : Ex _ _ := g1.fr ht2 (o := .lst [.ref t1])
      have e12 := e1.trans e2
      refine ⟨la, t2, _, _, rfl, rfl, g2.ge _ _ (e12 _ _ hla), upd_same, szl _ (by simp; omega), fun m hm => ?_⟩
      have e3 : Ex _ _ := g2.fr hm (o := .lst (xs ++ [.ref t1]))
      refine ⟨_, m, _, ls ++ [.tuple [d0, .bool true]], rfl, g2.new hm, upd_same, Hx.dta_app (ex_dta (e12.trans e3) hxs) (.cons (ex_dt (e2.trans e3) _ _ c1) .nil), fun l h => ?_, by simp, by simp; omega⟩
      rcases List.mem_append.mp h with h | h
      · exact hls.1 l h
      · rw [List.mem_singleton.mp h]; exact lit_mk ha0
    · have h1 : 1 ≤ ls.length := by
        rcases Nat.eq_zero_or_pos ls.length with h | h
        · exfalso; apply h1
          rw [xl, h]; simp
        · exact h
      refine ⟨szl 0 (by omega), fun t2 ht2 => ?_⟩
      have g2 := g0.new ht2 (o := .lst [])
      have e2 : Ex _ _ := g0.fr ht2 (o := .lst [])
      refine ⟨la, t2, _, _, rfl, rfl, g2.ge _ _ (e2 _ _ hla), upd_same, szl _ (by simp; omega), fun m hm => ?_⟩
      have e3 : Ex _ _ := g2.fr hm (o := .lst (xs ++ []))
      refine ⟨_, m, _, ls ++ [], rfl, g2.new hm, upd_same, Hx.dta_app (ex_dta (e2.trans e3) hxs) .nil, fun l h => ?_, by simp; omega, by simp; omega⟩
      rw [List.append_nil] at h
      exact hls.1 l h
  rintro σ' H1 ⟨G1, m, zs, ms, rfl, ga, hm, hzs, hms, ml1, ml2⟩
  have zl := dta_len hzs
  have e01 := ga.gg
  have mfit : ∀ l ∈ ms, fitB 2 l = true := fun l h => lit_fit (hms l h)
  refine ⟨_, rfl, s, L, 5, rfl, ga.st, by decide, by decide, fun kd H2 _ _ kp2 st2 => ?_⟩
  have ga2 := ga.next kp2 st2
  have nms : m ≠ s := fun z => by rw [z, ga.gs] at hm; cases hm
  refine ⟨_, rfl, rfl, _, rfl, ?_⟩
  refine ite2 (fun _ => ?_) (fun _ => ?_)
  · refine ⟨_, rfl, la, xs, rfl, .inl ⟨SqL.of (ga2.ge _ _ (e01 _ _ hla)), fun t ht => ?_⟩⟩
    exact q _ _ _ _ (ga2.new ht) (.tup upd_same (ex_dta (e01.trans (ga2.fr ht)) hxs)) rfl (tup_fit (by omega) f2) (fun ds h => nomatch h)
  refine ⟨_, rfl, rfl, _, rfl, ?_⟩
  refine ite2 (fun _ => ?_) (fun _ => ?_)
  · refine ⟨_, rfl, _, rfl, _, rfl, s, L, m, zs, rfl, st2, .inl (SqL.of (ga2.ge _ _ hm)), nms, by omega, by omega, fun j x H3 hj kp3 st3 => ⟨szl 1 (by omega), fun t ht => ?_⟩⟩
    have g3 := ga2.next kp3 st3
    obtain ⟨dj, hd1, hd2⟩ := dta_get hzs hj
    have hmj := List.mem_of_getElem? hd1
    have g4 := g3.new ht (o := .lst [x])
    have e4 : Ex _ _ := g3.fr ht (o := .lst [x])
    refine ⟨m, t, _, _, rfl, rfl, g4.ge _ _ (e4 _ _ hm), upd_same, szl _ (by simp; omega), fun t2 ht2 => ?_⟩
    have e5 : Ex _ _ := g4.fr ht2 (o := .lst (zs ++ [x]))
    refine q _ _ _ _ (g4.new ht2) (.lst upd_same (Hx.dta_app (ex_dta (e4.trans e5) hzs) (.cons (ex_dt (e4.trans e5) _ _ hd2) .nil))) (lits_dup hmj rfl) (lst_fit (by simp; omega) fun d hd => ?_) (fun ds h => by injection h with h; rw [← h]; simp; omega)
    rcases List.mem_append.mp hd with hd | hd
    · exact mfit d hd
    · rw [List.mem_singleton.mp hd]; exact mfit _ hmj
  refine ⟨_, rfl, rfl, _, rfl, ?_⟩
  refine ite2 (fun _ => ?_) (fun _ => ?_)
  · refine ⟨_, rfl, _, rfl, _, rfl, s, L, m, zs, rfl, st2, .inl (SqL.of (ga2.ge _ _ hm)), nms, by omega, by omega, fun j x H3 hj kp3 st3 => ?_⟩
    have g3 := ga2.next kp3 st3
    obtain ⟨dj, hd1, hd2⟩ := dta_get hzs hj
    have hmj := List.mem_of_getElem? hd1
    obtain ⟨r, y, at1, b, rfl, hr1, hy, hat1, rfl⟩ := lit_at hd2 (hms dj hmj)
    refine ⟨r, y, b, rfl, g3.ge _ _ hr1, fun t0 ht0 => ?_⟩
    obtain ⟨g3', e3', c3'⟩ := ga_tup g3 ht0 (xs := [y, .bl (!b)]) (ds := [at1, .bool (!b)]) (.cons hy (.cons (.bl _) .nil))
    refine ⟨szl 1 (by omega), fun t ht => ?_⟩
    have g4 := g3'.new ht (o := .lst [.ref t0])
    have e4 : Ex _ _ := g3'.fr ht (o := .lst [.ref t0])
    refine ⟨m, t, _, _, rfl, rfl, g4.ge _ _ ((e3'.trans e4) _ _ hm), upd_same, szl _ (by simp; omega), fun t2 ht2 => ?_⟩
    have e5 : Ex _ _ := g4.fr ht2 (o := .lst (zs ++ [.ref t0]))
    refine q _ _ _ _ (g4.new ht2) (.lst upd_same (Hx.dta_app (ex_dta ((e3'.trans e4).trans e5) hzs) (.cons (ex_dt (e4.trans e5) _ _ c3') .nil))) (lits_dup hmj rfl) (lst_fit (by simp; omega) fun d hd => ?_) (fun ds h => by injection h with h; rw [← h]; simp; omega)
    rcases List.mem_append.mp hd with hd | hd
    · exact mfit d hd
    · rw [List.mem_singleton.mp hd]; exact lit_fit (lit_mk hat1)
  refine ⟨_, rfl, rfl, _, rfl, ?_⟩
  refine ite2 (fun _ => ?_) (fun _ => ?_)
  · refine ⟨_, rfl, _, rfl, la, xs, rfl, .inl (SqL.of (ga2.ge _ _ (e01 _ _ hla))), _, 1, rfl, rfl, s, L, _, rfl, st2, by omega, by omega, fun d H3 d1 d2 kp3 st3 => ?_⟩
    obtain ⟨k, rfl⟩ : ∃ k : Nat, d = (k : Int) := ⟨d.toNat, by omega⟩
    have g3 := ga2.next kp3 st3
    refine ⟨_, rfl, _, rfl, _, rfl, la, xs, rfl, SqL.of (g3.ge _ _ (e01 _ _ hla)), fun z1 hz1 => ?_⟩
    rw [cut_to (by omega)]
    have g4 := g3.new hz1 (o := .lst (xs.take k))
    have e4 : Ex G1 _ := g3.fr hz1 (o := .lst (xs.take k))
    have h4 : upd G1 z1 (.lst (xs.take k)) z1 = some (.lst (xs.take k)) := upd_same
    generalize upd G1 z1 (.lst (xs.take k)) = G4 at g4 e4 h4
    generalize upd H3 z1 (.lst (xs.take k)) = I4 at g4
    refine ⟨_, rfl, s, L, G4, rfl, g4.st, g4.ge, g4.gs, fun v bd G5 I5 b5 hv hbad hfit => ⟨szl 1 (by omega), fun z2 hz2 => ?_⟩⟩
    have g5 := g4.trans b5
    have g6 := g5.new hz2 (o := .lst [v])
    have e6 : Ex G5 _ := g5.fr hz2 (o := .lst [v])
    have h6 : upd G5 z2 (.lst [v]) z2 = some (.lst [v]) := upd_same
    have h46 := e6 _ _ (b5.gg _ _ h4)
    have hv6 := ex_dt e6 _ _ hv
    have e06 := ((e01.trans e4).trans b5.gg).trans e6
    generalize upd G5 z2 (.lst [v]) = G6 at g6 e6 h6 h46 hv6 e06
    generalize upd I5 z2 (.lst [v]) = I6 at g6
    refine ⟨z1, z2, _, _, rfl, rfl, g6.ge _ _ h46, g6.ge _ _ h6, szl _ (by rw [List.length_take]; simp; omega), fun z3 hz3 => ?_⟩
    have g7 := g6.new hz3 (o := .lst (xs.take k ++ [v]))
    have e7 : Ex G6 _ := g6.fr hz3 (o := .lst (xs.take k ++ [v]))
    have h7 : upd G6 z3 (.lst (xs.take k ++ [v])) z3 = some (.lst (xs.take k ++ [v])) := upd_same
    generalize upd G6 z3 (.lst (xs.take k ++ [v])) = G7 at g7 e7 h7
    generalize upd I6 z3 (.lst (xs.take k ++ [v])) = I7 at g7
    have e07 := e06.trans e7
    refine ⟨_, rfl, _, rfl, _, rfl, la, xs, rfl, SqL.of (g7.ge _ _ (e07 _ _ hla)), fun z4 hz4 => ?_⟩
    rw [cut_from (by omega)]
    have g8 := g7.new hz4 (o := .lst (xs.drop k))
    have e8 : Ex G7 _ := g7.fr hz4 (o := .lst (xs.drop k))
    have h8 : upd G7 z4 (.lst (xs.drop k)) z4 = some (.lst (xs.drop k)) := upd_same
    generalize upd G7 z4 (.lst (xs.drop k)) = G8 at g8 e8 h8
    generalize upd I7 z4 (.lst (xs.drop k)) = I8 at g8
    refine ⟨z3, z4, _, _, rfl, rfl, g8.ge _ _ (e8 _ _ h7), g8.ge _ _ h8, szl _ (by rw [List.length_append, List.length_take, List.length_drop]; simp; omega), fun f hf => ?_⟩
    have e9 : Ex G8 _ := g8.fr hf (o := .lst (xs.take k ++ [v] ++ xs.drop k))
    have hx9 := ex_dta (e07.trans (e8.trans e9)) hxs
    refine q _ _ _ _ (g8.new hf) (.lst upd_same (Hx.dta_app (Hx.dta_app (dta_take k hx9) (.cons (ex_dt (e7.trans (e8.trans e9)) _ _ hv6) .nil)) (dta_drop k hx9))) (lits_bad (y := bd) (by simp) hbad) (lst_fit ?_ fun d hd => ?_) (fun ds h => ?_)
    · simp only [List.length_append, List.length_take, List.length_drop, List.length_singleton]; omega
    · rcases List.mem_append.mp hd with hd | hd
      · rcases List.mem_append.mp hd with hd | hd
        · exact f2 d (List.mem_of_mem_take hd)
        · rw [List.mem_singleton.mp hd]; exact hfit
      · exact f2 d (List.mem_of_mem_drop hd)
    · injection h with h
      rw [← h]
      simp only [List.length_append, List.length_take, List.length_drop, List.length_singleton]; omega
  · refine ⟨_, rfl, fun t2 ht2 => ?_⟩
    have g3 := ga2.new ht2 (o := .dK [])
    have c3 : Dt (upd G1 t2 (.dK [])) (.ref t2) (.dict []) := .dct upd_same .nil
    generalize upd G1 t2 (.dK []) = G3 at g3 c3
    generalize upd H2 t2 (.dK []) = I3 at g3
    refine ⟨szl 4 (by omega), fun t3 ht3 => ?_⟩
    have g4 := g3.new ht3 (o := .tup [.non, .ref t2, .str "literals", .int 3])
    have e4 : Ex G3 _ := g3.fr ht3 (o := .tup [.non, .ref t2, .str "literals", .int 3])
    have h4 : upd G3 t3 (.tup [.non, .ref t2, .str "literals", .int 3]) t3 = some (.tup [.non, .ref t2, .str "literals", .int 3]) := upd_same
    have c4 : DtAll (upd G3 t3 (.tup [.non, .ref t2, .str "literals", .int 3])) [.non, .ref t2, .str "literals", .int 3] [.none, .dict [], .str (Str.ofString "literals"), .int 3] := .cons .non (.cons (ex_dt e4 _ _ c3) (.cons (.str _) (.cons (.int _) .nil)))
    generalize upd G3 t3 (.tup [.non, .ref t2, .str "literals", .int 3]) = G4 at g4 e4 h4 c4
    generalize upd I3 t3 (.tup [.non, .ref t2, .str "literals", .int 3]) = I4 at g4
    refine ⟨s, L, t3, _, rfl, g4.st, .inr (SqT.of (g4.ge _ _ h4)), g3.no ht3, by simp, by simp, fun j x H5 hj kp5 st5 => ?_⟩
    obtain ⟨dj, hd1, hd2⟩ := dta_get c4 hj
    have g5 := g4.next kp5 st5
    have hm2 := List.mem_of_getElem? hd1
    simp only [List.mem_cons, List.not_mem_nil, or_false] at hm2
    rcases hm2 with rfl | rfl | rfl | rfl
    · exact q _ _ _ _ g5 hd2 rfl rfl (fun ds h => nomatch h)
    · exact q _ _ _ _ g5 hd2 rfl rfl (fun ds h => nomatch h)
    · exact q _ _ _ _ g5 hd2 rfl rfl (fun ds h => nomatch h)
    · exact q _ _ _ _ g5 hd2 rfl rfl (fun ds h => nomatch h)
end
end K21
/-! sorted(t), t a tuple of nested tuples -/
namespace Hx
open PySem PySem.Spec PyProof.Rows L2
theorem reads_nil {h : Heap} : ∀ (d : PyData) (v : Value) (as : List Addr), keyD d = true → Reads h v d as → as = [] := by
  intro d
  refine PyData.rec (motive_1 := fun d => ∀ v as, keyD d = true → Reads h v d as → as = []) (motive_2 := fun ds => ∀ vs as, keysD ds = true → ReadsAll h vs ds as → as = []) (motive_3 := fun _ => True) (motive_4 := fun _ => True) ?_ ?_ ?_ ?_ ?_ ?_ ?_ ?_ ?_ ?_ ?_ ?_ d
  · intro v as _ r; cases r; rfl
  · intro b v as _ r; cases r; rfl
  · intro i v as _ r; cases r; rfl
  · intro x v as _ r; cases r; rfl
  · intro xs ih v as hk r; rw [keyD] at hk; cases hk
  · intro xs ih v as hk r
    rw [keyD] at hk
    cases r with
    | tuple _ _ _ h4 => exact ih _ _ hk h4
  · intro kvs _ v as hk r; rw [keyD] at hk; cases hk
  · intro vs as _ r; cases r; rfl
  · intro d ds ih ihs vs as hk r
    rw [keysD, Bool.and_eq_true] at hk
    cases r with
    | cons h1 h2 => rw [ih _ _ hk.1 h1, ihs _ _ hk.2 h2]; rfl
  · trivial
  · intros; trivial
  · intros; trivial
theorem each_nil {h : Heap} {a : Addr} : ∀ {us : List Value} {ds : List PyData}, keysD ds = true → PySem.W.EachIs (fun u d => ∃ as, Reads h u d as) us ds → PySem.W.EachIs (fun u d => ∃ as, Reads h u d as ∧ a ∉ as) us ds
  | _, _, _, .nil => .nil
  | _, _, hk, .cons ⟨as, r⟩ t => by
    rw [keysD, Bool.and_eq_true] at hk
    refine .cons ⟨as, r, ?_⟩ (each_nil hk.2 t)
    rw [reads_nil _ _ _ hk.1 r]
    exact fun z => nomatch z
def rSortTD : List V → Hp → VK → Prop := fun vs H Q => ∃ (a : Addr) (xs : List V) (ds : List PyData) (G : Hp), vs = [V.ref a] ∧ H a = some (.tup xs) ∧ Ex G H ∧ DtAll G xs ds ∧ keysD ds = true ∧ PySem.W.AllAlike ds ∧ PySem.W.Sortable ds ∧ (∀ d ∈ ds, d.depth ≤ 8) ∧
  ∀ p ys, H p = none → DtAll G ys (ds.mergeSort (PySem.W.dataLe false id)) → ys.length = xs.length → Q (.ref p) (L2.upd H p (.lst ys))
section
variable {X : Cx}
theorem sortTD (hu : X.A.units + 65 < cLine) : CallR X (.builtin "sorted") rSortTD := by
  intro pins s σ H vs us Q I r h
  obtain ⟨a, xs, ds, G, rfl, ha, eG, hx, hk, al, so, hd, q⟩ := h
  rw [Vals.ref1 r]
  obtain ⟨its, rv, y, hz⟩ := I.tuple (SqT.of ha)
  have hxl := dta_len hx
  have hvl := rv.length
  refine Calls.call_function_entry kind_sorted plain_sorted entry_sorted (args_sorted1 _) ?_
  unfold Builtin.«sorted»
  refine wpAny_bind (m := checkCount "sorted" 1 1 _) (wpAny_pure ?_)
  obtain ⟨ob, o1, o2, nn, o3⟩ := y
  refine wpAny_bind (wpAny_collect_seq a (.inr rfl) o1 o2 o3 (fun h1 k1 => ?_) (by rw [List.size_toArray, ← hvl]; exact hz))
  rw [List.toList_toArray]
  have I1 : Inv X pins σ H { s with heap := h1 } := I.kept (t' := s.toks) k1
  have hz4 : its.length ≤ sizeLine := by rw [← hvl]; exact hz
  refine wpAny_bind (wpAny_newList ?_ hz4)
  have hoL : (h1.push (seqObj "list" its.toArray 0)).get? h1.objs.size = some (seqObj "list" its.toArray 0) := Heap.get?_push_size _ rfl
  have k2 : ∀ b o, h1.get? b = some o → (h1.push (seqObj "list" its.toArray 0)).get? b = some o := fun b o e => Heap.get?_push_of_some _ e
  have I2 : Inv X pins σ H { s with heap := h1.push (seqObj "list" its.toArray 0) } := I1.kept (t' := s.toks) k2
  have er := each_nil (a := h1.objs.size) hk (each_rd I2 hk (ex_dta eG hx) rv)
  refine wpAny_bind (wpAny_holding (PySem.W.list_sort_data (R := fun u d => ∃ x, RelV x u ∧ Dt G x d) (enc := id) (s := { s with heap := h1.push (seqObj "list" its.toArray 0) }) hoL (each_dt hx rv) er (by rw [List.map_id]; exact al) (by rw [List.map_id]; exact so) (by omega)
    (fun d h => by have := hd d h; show X.A.units + 1 + 1 + d.depth < cLine; omega) fun out hlo eo => ?_))
  obtain ⟨ys, ry, hy⟩ := back_dt eo
  have hyl := ry.length
  obtain ⟨c, hc2⟩ := sortedHeap_at (vs := its) (out := out.toArray) hoL
  have kp : ∀ b u, h1.get? b = some u → (sortedHeap (h1.push (seqObj "list" its.toArray 0)) h1.objs.size its out.toArray).get? b = some u := fun b u e => by
    have hlt := Heap.lt_size e
    rw [sortedHeap_old (Nat.ne_of_lt hlt) (by rw [size_push']; exact Nat.lt_succ_of_lt hlt)]
    exact Heap.get?_push_of_some _ e
  have hp : H h1.objs.size = none := I1.hok.fresh (Nat.le_refl _)
  refine wpAny_pure ⟨_, rfl, ?_⟩
  exact ⟨.ref _, L2.upd H h1.objs.size (.lst ys), I1.laid (t' := s.toks) kp (Nat.le_refl _) ⟨by omega, out, c, ry, hc2⟩, rfl, q _ ys hp hy (by omega)⟩
end
end Hx
namespace K21
open PySem PySem.Spec PyProof.Rows L2 Hx Hd
open Evl (pss_cut tCut ex_l ex_t)
open M21
theorem flat_rep {α : Type} (x : α) : ∀ n : Nat, (List.replicate n [x]).flatten = List.replicate n x
  | 0 => rfl
  | n + 1 => by rw [List.replicate_succ, List.flatten_cons, flat_rep x n]; rfl
theorem dta_rep {G : Hp} {v : V} {d : PyData} (h : Dt G v d) : ∀ n : Nat, DtAll G (List.replicate n v) (List.replicate n d)
  | 0 => .nil
  | n + 1 => .cons h (dta_rep h n)
theorem ask_lines {rs : Rws} {ls : List PyData} (h1 : ∀ r ∈ rs, rowD (.tuple r) = true) (h2 : litsD (.list ls) = true) (h3 : 400 < rs.length) : askD (.list (rs.map PyData.tuple)) (.list ls) = rsd "TooMany" [.str (Str.ofString "lines")] := by
  have e1 : firstBad (rs.map PyData.tuple) 0 = none := first_none fun a ha => by obtain ⟨r, hr, rfl⟩ := List.mem_map.mp ha; exact h1 r hr
  unfold askD; dsimp only; rw [e1]; dsimp only; rw [if_neg (by rw [h2]; decide), if_pos (by rw [List.length_map]; exact h3)]
theorem ask_literals {rs : Rws} {ls : List PyData} (h1 : ∀ r ∈ rs, rowD (.tuple r) = true) (h2 : litsD (.list ls) = true) (h3 : rs.length ≤ 400) (h4 : 2000 < (rs.map List.length).sum) : askD (.list (rs.map PyData.tuple)) (.list ls) = rsd "TooMany" [.str (Str.ofString "literals")] := by
  have e1 : firstBad (rs.map PyData.tuple) 0 = none := first_none fun a ha => by obtain ⟨r, hr, rfl⟩ := List.mem_map.mp ha; exact h1 r hr
  have e2 : ((rs.map PyData.tuple).map fun d => (tupD d).length).sum = (rs.map List.length).sum := by rw [List.map_map]; rfl
  unfold askD; dsimp only; rw [e1]; dsimp only; rw [if_neg (by rw [h2]; decide), if_neg (by rw [List.length_map]; omega), e2, if_pos h4]
section
variable {P : Program} {w : World} {K : PySem.W.Frag} {mg : Str → Option Value} {base : Heap}
def spGreat : Sp := fun vs H Q _ => ∃ (s L a : Addr) (us : List V) (ds : List PyData) (G : Hp), vs = [.ref s, .ref a] ∧ Strm H s L ∧ Ex G H ∧ G s = none ∧ G a = some (.lst us) ∧ DtAll G us ds ∧ AtomsN ds ∧ 6 ≤ ds.length ∧
  ∀ p q v2 zs rws due G2 H2, Ga s L G H G2 H2 → G2 p = some (.lst [.ref q, v2]) → G2 q = some (.lst zs) → DtAll G2 zs (rws.map PyData.tuple) → (∀ r ∈ rws, rowD (.tuple r) = true) → rws.length ≤ 401 → Dt G2 v2 due →
    ((due = .none ∧ ∃ r, rws = List.replicate 400 r ∧ r.length = 5 ∧ (r.map fun d => nk (fstD d)).Nodup) ∨ (due ≠ .none ∧ nodes due ≤ 100 ∧ ∀ ls, litsD (.list ls) = true → askD (.list (rws.map PyData.tuple)) (.list ls) = due)) → Q (.ref p) H2
abbrev N_law_great : List Str := ["stream", "atoms", "wide", "atom", "kind", "at", "row"]
theorem sc_law_great : FnScope N_law_great ["stream", "atoms"] (defScope (top 52)) := ⟨rfl, rfl, rfl, by decide +kernel, rfl, by decide +kernel, by decide +kernel⟩
theorem ok_great (T : Txt K mg) (C__law_next : Cal P w K mg base CX0 1 "_law_next" ["stream", "many"] spNext) : Cal P w K mg base CX0 2 "_law_great" ["stream", "atoms"] spGreat := by
  refine mkCal T.g__law_great T.d__law_great sc_law_great (fun _ _ _ _ _ _ us hl => match us, hl with | [_, _], _ => rfl) (fun vs H Q E h => ?_) fun cdv A outer s0 H vs Q E hr h => ?_
  · obtain ⟨_, _, _, _, _, _, rfl, _⟩ := h; rfl
  obtain ⟨s, L, a, us, ds, G, rfl, st, eG, gs, hus, hds, hat, hn, q⟩ := h
  refine ⟨_, (pss_cons (ps_set (i := 2) sc_law_great.nd rfl (Or.inl rfl) (pe_callTy (tupOf (K := K)) (by rfl) T.n_tuple (by decide +kernel) (pa_cons (pe_callB (Hx.sortD (hu65 hr)) (by rfl) T.n_sorted (by decide +kernel) (pa_cons (pe_lc (own := [("atom", 3)]) (g := gName 3) rfl sc_law_great.nd (piL (K := K) (pe_slice (slL (K := K)) (pv 1) po_none (po_some pe_int))) (blkOk_by (N := N_law_great) (sc := defScope (top 52)) (by decide +kernel)) (fun _ _ _ _ _ => (pg_name (i := 3) sc_law_great.nd rfl (Or.inl rfl))) (fun _ _ _ _ _ => pts_nil) (fun _ _ _ _ _ => (pe_tup (pa_cons (pv 3) (pa_cons (pe_cmpR op_eq (pe_cal (E := E0) C__law_next (hr.mono (by decide)) pass0 (pa_cons (pv 0) (pa_cons pe_int pa_nil))) pe_int (nomark _)) pa_nil))))) pa_nil)) pa_nil)))
      (pss_cons (ps_set (i := 4) sc_law_great.nd rfl (Or.inl rfl) (pe_cal (E := E0) C__law_next (hr.mono (by decide)) pass0 (pa_cons (pv 0) (pa_cons pe_int pa_nil))))
      (pss_cons (ps_if (pt_cmpR op_eq (pv 4) pe_int (nomark _)) (pss_one (ps_ret (pe_lst (pa_cons (pe_op op_rep (pe_lst (pa_cons (pv 2) pa_nil)) pe_int) (pa_cons pe_non pa_nil))))) pss_nil)
      (pss_cons (ps_set (i := 5) sc_law_great.nd rfl (Or.inl rfl) (pe_cal (E := E0) C__law_next (hr.mono (by decide)) pass0 (pa_cons (pv 0) (pa_cons pe_int pa_nil))))
      (pss_cons (ps_if (pt_cmpR op_eq (pv 4) pe_int (nomark _)) (pss_cons (ps_set (i := 6) sc_law_great.nd rfl (Or.inl rfl) (pe_callTy (tupOf (K := K)) (by rfl) T.n_tuple (by decide +kernel) (pa_cons (pe_callB (Hx.sortTD (hu65 hr)) (by rfl) T.n_sorted (by decide +kernel) (pa_cons (pe_op (catA (K := K)) (pv 2) (pe_tup (pa_cons (pe_tup (pa_cons (pe_ix (ixL (K := K)) (pv 1) pe_int (fun _ _ => rfl)) (pa_cons pe_bl pa_nil))) pa_nil))) pa_nil)) pa_nil)))
      (pss_one (ps_ret (pe_lst (pa_cons (pe_op op_cat (pe_op op_cat (pe_op op_rep (pe_lst (pa_cons (pv 2) pa_nil)) (pv 5)) (pe_lst (pa_cons (pv 6) pa_nil))) (pe_op op_rep (pe_lst (pa_cons (pv 2) pa_nil)) (pe_op op_sub pe_int (pv 5)))) (pa_cons (pe_lst (pa_cons pe_str (pa_cons pe_str (pa_cons (pe_tup (pa_cons pe_str pa_nil)) pa_nil)))) pa_nil)))))) pss_nil)
      (pss_cons (ps_if (pt_cmpR op_eq (pv 4) pe_int (nomark _)) (pss_one (ps_ret (pe_lst (pa_cons (pe_op op_rep (pe_lst (pa_cons (pe_slice (slA (K := K)) (pv 2) po_none (po_some pe_int)) pa_nil)) pe_int) (pa_cons (pe_lst (pa_cons pe_str (pa_cons pe_str (pa_cons (pe_tup (pa_cons pe_str pa_nil)) pa_nil)))) pa_nil))))) pss_nil)
      (pss_one (ps_ret (pe_lst (pa_cons (pe_op op_rep (pe_lst (pa_cons (pv 2) pa_nil)) pe_int) (pa_cons (pe_lst (pa_cons pe_str (pa_cons pe_str (pa_cons (pe_tup (pa_cons pe_str pa_nil)) pa_nil)))) pa_nil))))))))))), ?_⟩
  have ul := dta_len hds
  have g0 := Ga.refl eG st gs
  have e5i : (5 : Int) = ((5 : Nat) : Int) := rfl
  refine ⟨_, rfl, 5, rfl, a, us, rfl, SqL.of (eG _ _ hus), fun z hz => ?_⟩
  rw [e5i, cut_to (by omega)]
  have g4 := g0.new hz (o := .lst (us.take 5))
  have e4 : Ex G _ := g0.fr hz (o := .lst (us.take 5))
  have hz4 : upd G z (.lst (us.take 5)) z = some (.lst (us.take 5)) := upd_same
  have hd4 := dta_take 5 (ex_dta e4 hds)
  generalize upd G z (.lst (us.take 5)) = G4 at g4 e4 hz4 hd4
  generalize upd H z (.lst (us.take 5)) = H4 at g4
  have tl : (us.take 5).length = 5 := by rw [List.length_take]; omega
  refine ⟨z, rfl, ⟨_, SqL.of (g4.ge _ _ hz4)⟩, fun D hD => ?_⟩
  refine lcGa walk_list g4 (fun G' H' a e => SqL.of (a.ge _ _ (e _ _ hz4))) (by omega) (fun i v G => ∃ b : Bool, Dt G v (.tuple [ds.getD i .none, .bool b])) (fun i v G G' e ⟨b, h⟩ => ⟨b, ex_dt e _ _ h⟩) (fun i => [some (.ref s), some (.ref a), none, some ((us.take 5).getD i .non), none, none, none])
    (fun i x G' H' H'' hi a e yy Q q => ?_) (fun _ _ => rfl) (fun i G' H' hi b e Q q => ?_) (fun i x G' H' H'' hi a yy => yy.1) hD (fun zs G' H' b e hp hl hr => ?_)
  · obtain ⟨rfl, hx⟩ := yy
    have : (us.take 5).getD i .non = x := by rw [List.getD_eq_getElem?_getD, hx]; rfl
    have q := q rfl
    rw [this] at q
    exact q
  · have hx : (us.take 5)[i]? = some ((us.take 5).getD i .non) := by rw [List.getD_eq_getElem?_getD, List.getElem?_eq_getElem hi]; rfl
    obtain ⟨di, hdi, hti⟩ := dta_get (ex_dta e hd4) hx
    have hgd : ds.getD i .none = di := by
      rw [List.getElem?_take, if_pos (by omega)] at hdi
      rw [List.getD_eq_getElem?_getD, hdi]; rfl
    refine ⟨_, rfl, _, rfl, s, L, 2, rfl, b.st, by decide, by decide, fun dd H5 _ _ kp5 st5 => ⟨rfl, szl 2 (by omega), fun t ht => ?_⟩⟩
    have b5 := (Ga.refl b.ge b.st b.gs).next kp5 st5
    refine q _ _ _ (b5.new ht) ⟨decide (V.int dd = V.int 0), ?_⟩
    rw [hgd]
    exact .tup upd_same (.cons (ex_dt (b5.fr ht) _ _ hti) (.cons (.bl _) .nil))
  obtain ⟨fs, hf1, hf2⟩ := r_ex (Pr := fun i d => ∃ b : Bool, d = .tuple [ds.getD i .none, .bool b]) fun i y hy => by
    obtain ⟨b, h⟩ := hr i y hy
    exact ⟨_, h, b, rfl⟩
  have fl := dta_len hf1
  have fl5 : fs.length = 5 := by omega
  have hget : ∀ i, i < 6 → ds[i]? = some (ds.getD i .none) := fun i hi => by rw [List.getD_eq_getElem?_getD, List.getElem?_eq_getElem (by omega)]; rfl
  have hata : ∀ i, i < 6 → atomD (ds.getD i .none) = true := fun i hi => (hat.2 i _ (hget i hi)).1
  have flit : ∀ x ∈ fs, litD x = true := fun x hx => by
    obtain ⟨i, hi⟩ := List.getElem?_of_mem hx
    obtain ⟨b, rfl⟩ := hf2 i x hi
    have := (List.getElem?_eq_some_iff.mp hi).1
    exact lit_mk (hata i (by omega))
  have fkey : fs.map (fun d => nk (fstD d)) = (ds.take 5).map nk := by
    apply List.ext_getElem?
    intro i
    rw [List.getElem?_map, List.getElem?_map]
    by_cases hi : i < 5
    · have h3 : i < fs.length := by omega
      obtain ⟨b, e⟩ := hf2 i _ (List.getElem?_eq_getElem h3)
      rw [List.getElem?_eq_getElem h3, e, List.getElem?_take, if_pos hi, hget i (by omega)]
      rfl
    · rw [List.getElem?_eq_none (show fs.length ≤ i by omega), List.getElem?_eq_none (show (ds.take 5).length ≤ i by rw [List.length_take]; omega)]; rfl
  have fnd : fs.Nodup := by
    have h1 : (fs.map fun d => nk (fstD d)).Nodup := by rw [fkey]; exact hat.nodup.sublist ((List.take_sublist 5 ds).map nk)
    rw [List.Nodup, List.pairwise_map] at h1
    exact h1.imp fun h e => h (by rw [e])
  -- wide
  refine ⟨D, zs, fs, G', rfl, b.ge _ _ hp, b.ge, hf1, lits_keys flit, lits_alike flit, lits_sortable flit, lits_depth flit, fun p1 ys hp1 hy hyl => ?_⟩
  refine ⟨p1, ys, rfl, .inl ⟨SqL.of upd_same, fun wd hwd => ?_⟩⟩
  have b1 := (b.lay hp1 (o := .lst ys)).new hwd (o := .tup ys)
  have e1 : Ex G' _ := (b.lay hp1 (o := .lst ys)).fr hwd (o := .tup ys)
  have hw1 : upd G' wd (.tup ys) wd = some (.tup ys) := upd_same
  have hy1 := ex_dta e1 hy
  have eG1 := (e4.trans e).trans e1
  have hrow := row_sort flit fnd
  have hpm := List.mergeSort_perm fs leD2
  generalize hr5 : fs.mergeSort leD2 = r at hrow hpm
  have hy1 : DtAll (upd G' wd (.tup ys)) ys r := hr5 ▸ hy1
  have rl : r.length = 5 := by rw [hpm.length_eq, fl5]
  have hrn : (r.map fun d => nk (fstD d)).Nodup := (hpm.map _).nodup_iff.mpr (by rw [fkey]; exact hat.nodup.sublist ((List.take_sublist 5 ds).map nk))
  generalize upd G' wd (.tup ys) = G1 at b1 e1 hw1 hy1 eG1
  generalize upd (upd H' p1 (.lst ys)) wd (.tup ys) = H1 at b1
  have hwt : Dt G1 (.ref wd) (.tuple r) := .tup hw1 hy1
  have yl := dta_len hy1
  refine ⟨_, rfl, s, L, 4, rfl, b1.st, by decide, by decide, fun kd H2 _ _ kp2 st2 => ?_⟩
  have b2 := b1.next kp2 st2
  have lst1 : ∀ (n : Nat) (x : V) (d : PyData) {Gx Hx2 : Hp} (g : Ga s L G H Gx Hx2) (hx : Dt Gx x d) {t : Addr} (ht : Hx2 t = none), Ga s L G H (upd Gx t (.lst (List.replicate n x))) (upd Hx2 t (.lst (List.replicate n x))) ∧ Ex Gx (upd Gx t (.lst (List.replicate n x))) ∧ upd Gx t (.lst (List.replicate n x)) t = some (.lst (List.replicate n x)) ∧ DtAll (upd Gx t (.lst (List.replicate n x))) (List.replicate n x) (List.replicate n d) := fun n x d Gx Hx2 g hx t ht =>
    ⟨g.new ht, g.fr ht, upd_same, dta_rep (ex_dt (g.fr ht) _ _ hx) n⟩
  refine ⟨_, rfl, rfl, _, rfl, ?_⟩
  refine ite2 (fun _ => ?_) (fun _ => ?_)
  · refine ⟨_, rfl, szl 1 (by omega), fun t1 ht1 => ?_⟩
    obtain ⟨c1, x1, y1, z1⟩ := lst1 1 (.ref wd) _ b2 hwt ht1
    refine ⟨t1, 400, [.ref wd], rfl, rfl, upd_same, by decide, by decide, szl 400 (by omega), fun t2 ht2 => ?_⟩
    rw [flat_rep]
    obtain ⟨c2, x2, y2, z2⟩ := lst1 400 (.ref wd) _ c1 (ex_dt x1 _ _ hwt) ht2
    refine ⟨szl 2 (by omega), fun t3 ht3 => ?_⟩
    have x3 : Ex _ _ := c2.fr ht3 (o := .lst [.ref t2, .non])
    refine q t3 t2 .non _ (List.replicate 400 r) .none _ _ (c2.new ht3) upd_same (x3 _ _ y2) ?_ (fun r' hr' => by rw [(List.mem_replicate.mp hr').2]; exact hrow) (by simp) .non (.inl ⟨rfl, r, rfl, rl, hrn⟩)
    rw [List.map_replicate]
    exact ex_dta x3 z2
  refine ⟨_, rfl, s, L, 400, rfl, st2, by decide, by decide, fun d H3 d1 d2 kp3 st3 => ?_⟩
  obtain ⟨k, rfl⟩ : ∃ k : Nat, d = (k : Int) := ⟨d.toNat, by omega⟩
  have b3 := b2.next kp3 st3
  have due : ∀ (x : String) {Gx Hx2 : Hp} (g : Ga s L G H Gx Hx2) {u1 u2 : Addr} (h1 : Hx2 u1 = none) (h2 : upd Hx2 u1 (.tup [.str (Str.ofString x)]) u2 = none), ∃ Gy, Ga s L G H Gy (upd (upd Hx2 u1 (.tup [.str (Str.ofString x)])) u2 (.lst [.str "raised", .str "TooMany", .ref u1])) ∧ Ex Gx Gy ∧ Dt Gy (.ref u2) (rsd "TooMany" [.str (Str.ofString x)]) := fun x Gx Hx2 g u1 u2 h1 h2 => by
    obtain ⟨c1, x1, y1⟩ := ga_tup g h1 (xs := [.str (Str.ofString x)]) (ds := [.str (Str.ofString x)]) (.cons (.str _) .nil)
    obtain ⟨c2, x2, y2⟩ := ga_lst c1 h2 (xs := [.str "raised", .str "TooMany", .ref u1]) (ds := [.str (Str.ofString "raised"), .str (Str.ofString "TooMany"), .tuple [.str (Str.ofString x)]]) (.cons (.str _) (.cons (.str _) (.cons y1 .nil)))
    exact ⟨_, c2, x1.trans x2, y2⟩
  refine ⟨_, rfl, rfl, _, rfl, ?_⟩
  refine ite2 (fun _ => ?_) (fun _ => ?_)
  · have hx5 : us[5]? = some (us.getD 5 .non) := by rw [List.getD_eq_getElem?_getD, List.getElem?_eq_getElem (by omega)]; rfl
    obtain ⟨d5, h51, h52⟩ := dta_get hds hx5
    have hg5 : ds.getD 5 .none = d5 := by rw [List.getD_eq_getElem?_getD, h51]; rfl
    have ha5 := hata 5 (by omega)
    rw [hg5] at ha5
    refine ⟨_, rfl, _, rfl, a, us, 5, _, rfl, rfl, SqL.of (b3.ge _ _ (eG1 _ _ hus)), at_nat (i := 5) hx5, szl 2 (by omega), fun t1 ht1 => ?_⟩
    obtain ⟨c1, x1, y1⟩ := ga_tup b3 ht1 (xs := [us.getD 5 .non, .bl true]) (ds := [d5, .bool true]) (.cons (ex_dt eG1 _ _ h52) (.cons (.bl _) .nil))
    refine ⟨szl 1 (by omega), fun t2 ht2 => ?_⟩
    have c2 := c1.new ht2 (o := .tup [.ref t1])
    have x2 : Ex _ _ := c1.fr ht2 (o := .tup [.ref t1])
    have h2 : upd (upd G1 t1 (.tup [us.getD 5 .non, .bl true])) t2 (.tup [.ref t1]) t2 = some (.tup [.ref t1]) := upd_same
    have y2 := ex_dt x2 _ _ y1
    have e12 := x1.trans x2
    generalize upd (upd G1 t1 (.tup [us.getD 5 .non, .bl true])) t2 (.tup [.ref t1]) = G2 at c2 x2 h2 y2 e12
    generalize upd (upd H3 t1 (.tup [us.getD 5 .non, .bl true])) t2 (.tup [.ref t1]) = I2 at c2
    refine cat_tt (K := K) c2 (e12 _ _ hw1) h2 (by simp; omega) fun t3 G3 I3 c3 x3 _ h3 => ?_
    have f6l : ∀ x ∈ r ++ [.tuple [d5, .bool true]], litD x = true := fun x hx => by
      rcases List.mem_append.mp hx with hx | hx
      · exact flit x (hpm.mem_iff.mp hx)
      · rw [List.mem_singleton.mp hx]; exact lit_mk ha5
    have f6n : (r ++ [PyData.tuple [d5, .bool true]]).Nodup := by
      rw [List.nodup_append]
      refine ⟨hpm.nodup_iff.mpr fnd, by simp, fun x hx y hy e => ?_⟩
      rw [List.mem_singleton] at hy
      have hx := hpm.mem_iff.mp hx
      rw [e, hy] at hx
      have h1 : nk d5 ∈ (ds.take 5).map nk := by rw [← fkey]; exact List.mem_map.mpr ⟨_, hx, rfl⟩
      have nd := hat.nodup
      have hsp : ds = ds.take 5 ++ d5 :: ds.drop 6 := by
        conv => lhs; rw [← List.take_append_drop 5 ds]
        rw [List.drop_eq_getElem_cons (by omega)]
        congr 2
        have := List.getElem?_eq_getElem (l := ds) (i := 5) (by omega)
        rw [h51] at this
        exact (Option.some.inj this).symm
      rw [hsp, List.map_append, List.nodup_append] at nd
      exact nd.2.2 _ h1 _ (by simp) rfl
    have hd3 : DtAll G3 (ys ++ [.ref t1]) (r ++ [.tuple [d5, .bool true]]) := Hx.dta_app (ex_dta (e12.trans x3) hy1) (.cons (ex_dt x3 _ _ y2) .nil)
    refine ⟨t3, ys ++ [.ref t1], _, G3, rfl, c3.ge _ _ h3, c3.ge, hd3, lits_keys f6l, lits_alike f6l, lits_sortable f6l, lits_depth f6l, fun p4 ys4 hp4 hy4 hyl4 => ?_⟩
    refine ⟨p4, ys4, rfl, .inl ⟨SqL.of upd_same, fun rw' hrw => ?_⟩⟩
    have c5 := (c3.lay hp4 (o := .lst ys4)).new hrw (o := .tup ys4)
    have x5 : Ex G3 _ := (c3.lay hp4 (o := .lst ys4)).fr hrw (o := .tup ys4)
    have hrow6 := row_sort f6l f6n
    have hpm6 := List.mergeSort_perm (r ++ [PyData.tuple [d5, .bool true]]) leD2
    have hr6 : Dt (upd G3 rw' (.tup ys4)) (.ref rw') (.tuple ((r ++ [PyData.tuple [d5, .bool true]]).mergeSort leD2)) := .tup upd_same (ex_dta x5 hy4)
    have rl6 : ((r ++ [PyData.tuple [d5, .bool true]]).mergeSort leD2).length = 6 := by rw [hpm6.length_eq]; simp [rl]
    generalize (r ++ [PyData.tuple [d5, .bool true]]).mergeSort leD2 = r6 at hrow6 hr6 rl6
    have hw5 := ex_dt ((e12.trans x3).trans x5) _ _ hwt
    generalize upd G3 rw' (.tup ys4) = G5 at c5 x5 hr6 hw5
    generalize upd (upd I3 p4 (.lst ys4)) rw' (.tup ys4) = I5 at c5
    -- the rows
    refine ⟨_, rfl, szl 1 (by omega), fun u1 hu1 => ?_⟩
    obtain ⟨k1, m1, n1, o1⟩ := lst1 1 (.ref wd) _ c5 hw5 hu1
    refine ⟨_, rfl, u1, (k : Int), [.ref wd], rfl, rfl, upd_same, by omega, by omega, szl _ (by simp; omega), fun u2 hu2 => ?_⟩
    rw [flat_rep, Int.toNat_natCast]
    obtain ⟨k2, m2, n2, o2⟩ := lst1 k (.ref wd) _ k1 (ex_dt m1 _ _ hw5) hu2
    refine ⟨_, rfl, szl 1 (by omega), fun u3 hu3 => ?_⟩
    obtain ⟨k3, m3, n3, o3⟩ := lst1 1 (.ref rw') _ k2 (ex_dt (m1.trans m2) _ _ hr6) hu3
    refine ⟨u2, u3, _, _, rfl, rfl, k3.ge _ _ (m3 _ _ n2), k3.ge _ _ n3, szl _ (by simp; omega), fun u4 hu4 => ?_⟩
    have k4 := k3.new hu4 (o := .lst (List.replicate k (.ref wd) ++ List.replicate 1 (.ref rw')))
    have m4 : Ex _ _ := k3.fr hu4 (o := .lst (List.replicate k (.ref wd) ++ List.replicate 1 (.ref rw')))
    have mm := ((m1.trans m2).trans m3).trans m4
    refine ⟨_, rfl, szl 1 (by omega), fun u5 hu5 => ?_⟩
    obtain ⟨k5, m5, n5, o5⟩ := lst1 1 (.ref wd) _ k4 (ex_dt mm _ _ hw5) hu5
    refine ⟨_, rfl, 399, (k : Int), rfl, rfl, u5, 399 - (k : Int), [.ref wd], rfl, rfl, upd_same, by omega, by omega, szl _ (by simp; omega), fun u6 hu6 => ?_⟩
    rw [flat_rep, show (399 - (k : Int)).toNat = 399 - k by omega]
    obtain ⟨k6, m6, n6, o6⟩ := lst1 (399 - k) (.ref wd) _ k5 (ex_dt m5 _ _ (ex_dt mm _ _ hw5)) hu6
    refine ⟨u4, u6, _, _, rfl, rfl, k6.ge _ _ ((m5.trans m6) _ _ upd_same), k6.ge _ _ n6, szl _ (by simp; omega), fun u7 hu7 => ?_⟩
    have k7 := k6.new hu7 (o := .lst ((List.replicate k (.ref wd) ++ List.replicate 1 (.ref rw')) ++ List.replicate (399 - k) (.ref wd)))
    have m7 : Ex _ _ := k6.fr hu7 (o := .lst ((List.replicate k (.ref wd) ++ List.replicate 1 (.ref rw')) ++ List.replicate (399 - k) (.ref wd)))
    have m567 := (m5.trans m6).trans m7
    refine ⟨szl 1 (by omega), fun w1 hw1' => ⟨szl 3 (by omega), fun w2 hw2' => ?_⟩⟩
    obtain ⟨Gy, k8, m8, n8⟩ := due "literals" k7 hw1' hw2'
    refine ⟨szl 2 (by omega), fun w3 hw3' => ?_⟩
    have m9 : Ex Gy _ := k8.fr hw3' (o := .lst [.ref u7, .ref w2])
    have mall := m567.trans (m8.trans m9)
    have rows : ∀ r' ∈ List.replicate k r ++ List.replicate 1 r6 ++ List.replicate (399 - k) r, rowD (.tuple r') = true := fun r' h => by
      rcases List.mem_append.mp h with h | h
      · rcases List.mem_append.mp h with h | h
        · rw [(List.mem_replicate.mp h).2]; exact hrow
        · rw [(List.mem_replicate.mp h).2]; exact hrow6
      · rw [(List.mem_replicate.mp h).2]; exact hrow
    refine q w3 u7 (.ref w2) _ (List.replicate k r ++ List.replicate 1 r6 ++ List.replicate (399 - k) r) _ _ _ (k8.new hw3') upd_same ((m8.trans m9) _ _ upd_same) ?_ rows (by simp; omega) (ex_dt m9 _ _ n8) (.inr ⟨(by unfold rsd; exact fun z => nomatch z), by simp [rsd, nodes, nodesL], fun ls hls => ?_⟩)
    · rw [List.map_append, List.map_append, List.map_replicate, List.map_replicate, List.map_replicate]
      exact Hx.dta_app (Hx.dta_app (ex_dta ((m3.trans m4).trans mall) o2) (ex_dta (m4.trans mall) o3)) (ex_dta (m7.trans (m8.trans m9)) o6)
    · refine ask_literals rows hls (by simp; omega) ?_
      simp [rl, rl6]
      omega
  refine ⟨_, rfl, rfl, _, rfl, ?_⟩
  refine ite2 (fun _ => ?_) (fun _ => ?_)
  · refine ⟨_, rfl, 1, rfl, sl_take (K := K) (k := 1) b3 hw1 (by omega) fun p2 G3 I3 c3 x3 _ hp3 => ?_⟩
    have hrow1 : rowD (.tuple (r.take 1)) = true := by
      match r, rl, hrow with
      | y :: r, _, h => simp [rowD, ascD, row_lits h y (by simp)]
    have hw3 : Dt G3 (.ref p2) (.tuple (r.take 1)) := .tup hp3 (dta_take 1 (ex_dta x3 hy1))
    refine ⟨szl 1 (by omega), fun t1 ht1 => ?_⟩
    obtain ⟨c4, x4, y4, z4⟩ := lst1 1 (.ref p2) _ c3 hw3 ht1
    refine ⟨t1, 401, [.ref p2], rfl, rfl, upd_same, by decide, by decide, szl 401 (by omega), fun t2 ht2 => ?_⟩
    rw [flat_rep]
    obtain ⟨c5, x5, y5, z5⟩ := lst1 401 (.ref p2) _ c4 (ex_dt x4 _ _ hw3) ht2
    refine ⟨szl 1 (by omega), fun w1 hw1' => ⟨szl 3 (by omega), fun w2 hw2' => ?_⟩⟩
    obtain ⟨Gy, k8, m8, n8⟩ := due "lines" c5 hw1' hw2'
    refine ⟨szl 2 (by omega), fun w3 hw3' => ?_⟩
    have m9 : Ex Gy _ := k8.fr hw3' (o := .lst [.ref t2, .ref w2])
    have rows : ∀ r' ∈ List.replicate 401 (r.take 1), rowD (.tuple r') = true := fun r' h => by rw [(List.mem_replicate.mp h).2]; exact hrow1
    refine q w3 t2 (.ref w2) _ (List.replicate 401 (r.take 1)) _ _ _ (k8.new hw3') upd_same ((m8.trans m9) _ _ y5) ?_ rows (by simp) (ex_dt m9 _ _ n8) (.inr ⟨(by unfold rsd; exact fun z => nomatch z), by simp [rsd, nodes, nodesL], fun ls hls => ask_lines rows hls (by simp)⟩)
    rw [List.map_replicate]
    exact ex_dta (m8.trans m9) z5
  · refine ⟨_, rfl, szl 1 (by omega), fun t1 ht1 => ?_⟩
    obtain ⟨c4, x4, y4, z4⟩ := lst1 1 (.ref wd) _ b3 hwt ht1
    refine ⟨t1, 401, [.ref wd], rfl, rfl, upd_same, by decide, by decide, szl 401 (by omega), fun t2 ht2 => ?_⟩
    rw [flat_rep]
    obtain ⟨c5, x5, y5, z5⟩ := lst1 401 (.ref wd) _ c4 (ex_dt x4 _ _ hwt) ht2
    refine ⟨szl 1 (by omega), fun w1 hw1' => ⟨szl 3 (by omega), fun w2 hw2' => ?_⟩⟩
    obtain ⟨Gy, k8, m8, n8⟩ := due "lines" c5 hw1' hw2'
    refine ⟨szl 2 (by omega), fun w3 hw3' => ?_⟩
    have m9 : Ex Gy _ := k8.fr hw3' (o := .lst [.ref t2, .ref w2])
    have rows : ∀ r' ∈ List.replicate 401 r, rowD (.tuple r') = true := fun r' h => by rw [(List.mem_replicate.mp h).2]; exact hrow
    refine q w3 t2 (.ref w2) _ (List.replicate 401 r) _ _ _ (k8.new hw3') upd_same ((m8.trans m9) _ _ y5) ?_ rows (by simp) (ex_dt m9 _ _ n8) (.inr ⟨(by unfold rsd; exact fun z => nomatch z), by simp [rsd, nodes, nodesL], fun ls hls => ask_lines rows hls (by simp)⟩)
    rw [List.map_replicate]
    exact ex_dta (m8.trans m9) z5
end
end K21
namespace K21
open PySem PySem.Spec PyProof.Rows L2 Hx Hd
open Evl (pss_cut tCut ex_l ex_t)
open M21
theorem ex_mut {H H' : Hp} {p : Addr} {o : HO} (e : Ex H H') (h : H p = none) : Ex H (upd H' p o) := fun b u hb => by rw [upd_ne (ne_of_none hb h)]; exact e b u hb
theorem tps_mut {H' : Hp} {p : Addr} {xs : List V} {o : HO} (h : H' p = some (.lst xs)) : TpS H' (upd H' p o) := TpS.put h (fun _ z => nomatch z)
/-- what a call has made, beside what does not stand still -/
def mix (G H H2 : Hp) : Hp := fun a => match H a with | none => H2 a | some _ => G a
theorem mix_new {G H H2 : Hp} {p : Addr} (h : H p = none) : mix G H H2 p = H2 p := by unfold mix; rw [h]
theorem mix_old {G H H2 : Hp} {p : Addr} {o : HO} (h : H p = some o) : mix G H H2 p = G p := by unfold mix; rw [h]
theorem stp_mix {G H H2 : Hp} (eG : Ex G H) (e : Ex H H2) : Stp NoM G H (mix G H H2) H2 where
  hh := fun a o _ h => e a o h
  dm := fun a h => Evl.fresh_back e h
  gg := fun a o h => by rw [mix_old (eG a o h)]; exact h
  gh := fun a o h => by
    cases e1 : H a with
    | none => rw [mix_new e1] at h; exact h
    | some u => rw [mix_old e1] at h; exact e _ _ (eG _ _ h)
  fr := fun a h n => by
    cases e1 : H a with
    | none => exact absurd e1 h
    | some u => rw [mix_old e1]; exact n
def deedW (S : List NestedKey) (r : List PyData) : Str := if 0 < metOf S r then Str.ofString "met" else if leftOf S r = 0 then Str.ofString "broken" else if leftOf S r = 1 then Str.ofString "along" else Str.ofString "wide"
theorem met_pos {S : List NestedKey} {r : List PyData} (h : 0 < metOf S r) : ∃ (i : Nat) (x : PyData), r[i]? = some x ∧ nk x ∈ S := by
  unfold metOf at h
  obtain ⟨x, hx⟩ := List.exists_mem_of_length_pos h
  obtain ⟨h1, h2⟩ := List.mem_filter.mp hx
  obtain ⟨i, hi⟩ := List.getElem?_of_mem h1
  exact ⟨i, x, hi, of_decide_eq_true h2⟩
theorem met_zero {S : List NestedKey} {r : List PyData} (h : ∀ (j : Nat) (x : PyData), r[j]? = some x → nk x ∉ S) : metOf S r = 0 := by
  rcases Nat.eq_zero_or_pos (metOf S r) with h0 | h0
  · exact h0
  · obtain ⟨i, x, h1, h2⟩ := met_pos h0
    exact absurd h2 (h i x h1)
section
variable {P : Program} {w : World} {K : PySem.W.Frag} {mg : Str → Option Value} {base : Heap}
def spDeed (P : Program) (w : World) : Sp := fun vs H Q _ => ∃ (G : Hp) (sd : Addr) (kv : List (NestedKey × V)) (v : V) (r : List PyData) (S : List NestedKey), vs = [.ref sd, v] ∧ Ex G H ∧ DN P w H sd kv ∧ (∀ k, (valV kv k).isSome = true ↔ k ∈ S) ∧ Dt G v (.tuple r) ∧ (∀ x ∈ r, litD x = true) ∧ r.length ≤ 1000 ∧
  ∀ p x H2, Ex H H2 → H p = none → H2 p = some (.tup [.str (deedW S r), x]) → (deedW S r = Str.ofString "along" → Dt G x (openOf S r)) → Q (.ref p) H2
abbrev N_law_deed : List Str := ["stands", "row", "free", "literal"]
theorem sc_law_deed : FnScope N_law_deed ["stands", "row"] (defScope (top 42)) := ⟨rfl, rfl, rfl, by decide +kernel, rfl, by decide +kernel, by decide +kernel⟩
theorem ok_deed (T : Txt K mg) (C__law_denied : Cal P w K mg base CX0 1 "_law_denied" ["literal"] spDen) : Cal P w K mg base CX0 2 "_law_deed" ["stands", "row"] (spDeed P w) := by
  refine mkCal T.g__law_deed T.d__law_deed sc_law_deed (fun _ _ _ _ _ _ us hl => match us, hl with | [_, _], _ => rfl) (fun vs H Q E h => ?_) fun cdv A outer s0 H vs Q E hr h => ?_
  · obtain ⟨_, _, _, _, _, _, rfl, _⟩ := h; rfl
  obtain ⟨G, sd, kv, v, r, S, rfl, eG, dn, hkv, hv, hl, hz, q⟩ := h
  refine ⟨_, (pss_cons (ps_set (i := 2) sc_law_deed.nd rfl (Or.inl rfl) (pe_lst pa_nil))
      (pss_cons (ps_for PassesOwn.never rfl (piT (K := K) (pv 1)) (pg_name (i := 3) sc_law_deed.nd rfl (Or.inl rfl)) (pss_cons (ps_if (pt_cmpR (op_inN (hu9 hr)) (pv 3) (pv 0) (by rfl)) (pss_one (ps_ret (pe_tup (pa_cons pe_str (pa_cons pe_non pa_nil))))) pss_nil)
      (pss_one (ps_if (pt_cmpR (op_notInN (hu9 hr)) (pe_cal (E := E0) C__law_denied (hr.mono (by decide)) pass0 (pa_cons (pv 3) pa_nil)) (pv 0) (by rfl)) (pss_one (ps_expr (pe_bm PySem.F.plainAttrs_list PySem.F.slot_list_append PySem.F.type_list_append mt_append (pv 2) (pa_cons (pv 3) pa_nil)))) pss_nil))))
      (pss_cons (ps_if (pt_cmpR op_eq (pe_callB (lenL (K := K)) (by rfl) T.n_len PySem.boot_len (pa_cons (pv 2) pa_nil)) pe_int (nomark _)) (pss_one (ps_ret (pe_tup (pa_cons pe_str (pa_cons pe_non pa_nil))))) pss_nil)
      (pss_one (ps_ret (pe_ifExp (pt_cmpR op_eq (pe_callB (lenL (K := K)) (by rfl) T.n_len PySem.boot_len (pa_cons (pv 2) pa_nil)) pe_int (nomark _)) (pe_tup (pa_cons pe_str (pa_cons (pe_ix (ixL (K := K)) (pv 2) pe_int (fun _ _ => rfl)) pa_nil))) (pe_tup (pa_cons pe_str (pa_cons pe_non pa_nil))))))))), ?_⟩
  obtain ⟨ra, xs, rfl, hra, hxs⟩ := dt_tup hv
  have xl := dta_len hxs
  have bo : ∀ k, (valV kv k).isSome = decide (k ∈ S) := fun k => by rw [Bool.eq_iff_iff, decide_eq_true_iff]; exact hkv k
  refine ⟨szl 0 (by omega), fun f hf => ?_⟩
  have e0 := Evl.Ex.new hf (o := .lst [])
  refine ⟨_, rfl, ra, rfl, ⟨xs, SqT.of (e0 _ _ (eG _ _ hra))⟩, ?_⟩
  refine for_it walk_tup (fun i σ' H' => ∃ lv fl, σ' = [some (.ref sd), some (.ref ra), some (.ref f), lv] ∧ Ex H H' ∧ H' f = some (.lst fl) ∧ DtAll G fl ((r.take i).filter (openB S)) ∧ ∀ j x, j < i → r[j]? = some x → nk x ∉ S)
    ⟨none, [], rfl, e0, upd_same, .nil, fun j x hj => by omega⟩ (fun i σ' H' hi ⟨_, _, _, e, _⟩ => SqT.of (e _ _ (eG _ _ hra))) ?_ ?_
  · rintro i v σ' H' H2 hi ⟨lv, fl, rfl, e1, hf1, hfl, hno⟩ ⟨rfl, hv'⟩
    obtain ⟨di, hdi, hti⟩ := dta_get hxs hv'
    have hld := hl di (List.mem_of_getElem? hdi)
    have hir : i < r.length := (List.getElem?_eq_some_iff.mp hdi).1
    have htk : r.take (i + 1) = r.take i ++ [di] := by rw [List.take_succ, hdi]; rfl
    obtain ⟨rl, x, a, b, rfl, hrl1, hxa, hat, rfl⟩ := lit_at hti hld
    have nx : negD (PyData.tuple [a, .bool b]) = PyData.tuple [a, .bool (!b)] := rfl
    refine ⟨_, rfl, _, rfl, sd, kv, _, rfl, dn.ex e1, ky_lit (ex_dt (eG.trans e1) _ _ hti) hld, _, rfl, ?_⟩
    rw [bo]
    refine ite2 (fun h1 => ?_) (fun h1 => ?_)
    · have h1 := of_decide_eq_true h1
      have hm : 0 < metOf S r := metOf_pos (List.mem_of_getElem? hdi) h1
      have hd : deedW S r = Str.ofString "met" := if_pos hm
      refine ⟨szl 2 (by omega), fun p hp => q p .non _ (e1.trans (Evl.Ex.new hp)) (Evl.fresh_back e1 hp) (by rw [hd]; exact upd_same) (fun h => ?_)⟩
      rw [hd] at h
      exact absurd h (by decide +kernel)
    · have h1 : nk (PyData.tuple [a, .bool b]) ∉ S := fun z => h1 (decide_eq_true z)
      refine ⟨_, rfl, rl, x, b, rfl, (eG.trans e1) _ _ hrl1, fun p hp => ?_⟩
      have ep := Evl.Ex.new hp (o := .tup [x, .bl (!b)])
      have e2 := e1.trans ep
      have hfp := ep _ _ hf1
      have hno' : ∀ j x, j < i + 1 → r[j]? = some x → nk x ∉ S := fun j y hj hy => by
        by_cases z : j = i
        · subst z; rw [hdi] at hy; cases hy; exact h1
        · exact hno j y (by omega) hy
      refine ⟨_, rfl, sd, kv, _, rfl, dn.ex e2, ky_lit (dtl upd_same (ex_dt (eG.trans e2) _ _ hxa)) (by simp [litD, isT, hat]), _, rfl, ?_⟩
      rw [bo]
      refine ite2 (fun h2 => ?_) (fun h2 => ?_)
      · have h2 : nk (PyData.tuple [a, .bool (!b)]) ∉ S := fun z => by rw [decide_eq_true z] at h2; cases h2
        have hop : openB S (PyData.tuple [a, .bool b]) = true := decide_eq_true ⟨h1, by rw [nx]; exact h2⟩
        have hlen := dta_len hfl
        have hle := List.length_filter_le (openB S) (r.take i)
        rw [List.length_take] at hle
        refine ⟨_, rfl, .inl ⟨rfl, _, SqL.of hfp⟩, _, rfl, f, fl, _, rfl, rfl, hfp, Nat.lt_of_le_of_lt (show fl.length ≤ 1000 by omega) (sz _ (by omega)), ?_⟩
        refine ⟨_, _, rfl, ex_mut e2 hf, upd_same, ?_, hno'⟩
        rw [htk, List.filter_append, List.filter_cons, if_pos hop]
        exact Hx.dta_app hfl (.cons hti .nil)
      · have h2 : nk (PyData.tuple [a, .bool (!b)]) ∈ S := Classical.byContradiction fun z => h2 (by rw [decide_eq_false z]; rfl)
        have hop : openB S (PyData.tuple [a, .bool b]) = false := decide_eq_false fun z => z.2 (by rw [nx]; exact h2)
        refine ⟨_, fl, rfl, e2, hfp, ?_, hno'⟩
        rw [htk, List.filter_append, List.filter_cons, if_neg (by rw [hop]; decide)]
        simpa using hfl
  · rintro σ' H' ⟨lv, fl, rfl, e1, hf1, hfl, hno⟩
    rw [xl, List.take_length] at hfl
    have hm : metOf S r = 0 := met_zero fun j x hj => hno j x (by have := (List.getElem?_eq_some_iff.mp hj).1; omega) hj
    have hlen := dta_len hfl
    have hle : (r.filter (openB S)).length = leftOf S r := rfl
    rw [hle] at hlen
    refine ⟨_, rfl, f, fl, rfl, .inl (SqL.of hf1), rfl, _, rfl, ?_⟩
    refine ite2 (fun h1 => ?_) (fun h1 => ?_)
    · have h0 : leftOf S r = 0 := by
        have := of_decide_eq_true h1
        injection this with this
        omega
      have hd : deedW S r = Str.ofString "broken" := by unfold deedW; rw [if_neg (by omega), if_pos h0]
      refine ⟨szl 2 (by omega), fun p hp => q p .non _ (e1.trans (Evl.Ex.new hp)) (Evl.fresh_back e1 hp) (by rw [hd]; exact upd_same) (fun h => ?_)⟩
      rw [hd] at h
      exact absurd h (by decide +kernel)
    have h0 : leftOf S r ≠ 0 := fun z => h1 (by rw [hlen, z]; rfl)
    refine ⟨_, rfl, f, fl, rfl, .inl (SqL.of hf1), rfl, _, rfl, ?_⟩
    refine ite2 (fun h2 => ?_) (fun h2 => ?_)
    · have h2 : leftOf S r = 1 := by
        have := of_decide_eq_true h2
        injection this with this
        omega
      have hd : deedW S r = Str.ofString "along" := by unfold deedW; rw [if_neg (by omega), if_neg h0, if_pos h2]
      have hg : isGo S r = true := decide_eq_true ⟨hm, h2⟩
      obtain ⟨o1, o2, o3, o4⟩ := open_of hg
      rw [o4] at hfl
      cases hfl with
      | cons g1 g2 =>
        cases g2
        rename_i x0
        refine ⟨_, rfl, f, [x0], 0, x0, rfl, rfl, SqL.of hf1, rfl, szl 2 (by omega), fun p hp => q p x0 _ (e1.trans (Evl.Ex.new hp)) (Evl.fresh_back e1 hp) (by rw [hd]; exact upd_same) (fun _ => g1)⟩
    · have h2 : leftOf S r ≠ 1 := fun z => h2 (by rw [hlen, z]; rfl)
      have hd : deedW S r = Str.ofString "wide" := by unfold deedW; rw [if_neg (by omega), if_neg h0, if_neg h2]
      refine ⟨szl 2 (by omega), fun p hp => q p .non _ (e1.trans (Evl.Ex.new hp)) (Evl.fresh_back e1 hp) (by rw [hd]; exact upd_same) (fun h => ?_)⟩
      rw [hd] at h
      exact absurd h (by decide +kernel)
def inW (wd : Str) (S : List NestedKey) (rows : Rws) : Bool := rows.any fun r => decide (deedW S r = wd)
theorem inv_strs (wd : Str) (S : List NestedKey) (rows : Rws) : inV (.str wd) (rows.map fun r => V.str (deedW S r)) = inW wd S rows := by
  unfold inV inW
  rw [List.any_map]
  rfl
theorem deed_brk {S : List NestedKey} {r : List PyData} : deedW S r = Str.ofString "broken" ↔ isBrk S r = true := by
  unfold deedW isBrk
  rw [decide_eq_true_iff]
  by_cases h : 0 < metOf S r
  · rw [if_pos h]; exact ⟨fun z => absurd z (by decide +kernel), fun z => by omega⟩
  · rw [if_neg h]
    by_cases h2 : leftOf S r = 0
    · rw [if_pos h2]; exact ⟨fun _ => ⟨by omega, h2⟩, fun _ => rfl⟩
    · rw [if_neg h2]
      by_cases h3 : leftOf S r = 1
      · rw [if_pos h3]; exact ⟨fun z => absurd z (by decide +kernel), fun z => absurd z.2 h2⟩
      · rw [if_neg h3]; exact ⟨fun z => absurd z (by decide +kernel), fun z => absurd z.2 h2⟩
theorem deed_go {S : List NestedKey} {r : List PyData} : deedW S r = Str.ofString "along" ↔ isGo S r = true := by
  unfold deedW isGo
  rw [decide_eq_true_iff]
  by_cases h : 0 < metOf S r
  · rw [if_pos h]; exact ⟨fun z => absurd z (by decide +kernel), fun z => by omega⟩
  · rw [if_neg h]
    by_cases h2 : leftOf S r = 0
    · rw [if_pos h2]; exact ⟨fun z => absurd z (by decide +kernel), fun z => by omega⟩
    · rw [if_neg h2]
      by_cases h3 : leftOf S r = 1
      · rw [if_pos h3]; exact ⟨fun _ => ⟨by omega, h3⟩, fun _ => rfl⟩
      · rw [if_neg h3]; exact ⟨fun z => absurd z (by decide +kernel), fun z => absurd z.2 h3⟩
/-- the first row that does so -/
theorem first_word {wd : Str} {S : List NestedKey} {rows : Rws} {p : List PyData → Bool} (hp : ∀ r, deedW S r = wd ↔ p r = true) {n : Nat} (h : (List.range rows.length).find? (fun n => p (rows.getD n [])) = some n) :
    n < rows.length ∧ inW wd S rows = true ∧ (rows.map fun r => V.str (deedW S r))[n]? = some (.str wd) ∧ ∀ (m : Nat) (z : V), m < n → (rows.map fun r => V.str (deedW S r))[m]? = some z → eqV z (.str wd) = false := by
  obtain ⟨h1, h2, h3⟩ := find_is h
  have hg : ∀ m, m < rows.length → (rows.map fun r => V.str (deedW S r))[m]? = some (.str (deedW S (rows.getD m []))) := fun m hm => by
    rw [List.getElem?_map, List.getD_eq_getElem?_getD, List.getElem?_eq_getElem hm]; rfl
  have hw := (hp _).mpr h2
  refine ⟨h1, ?_, by rw [hg n h1, hw], fun m z hm hz => ?_⟩
  · unfold inW
    rw [List.any_eq_true]
    exact ⟨rows.getD n [], by rw [List.getD_eq_getElem?_getD, List.getElem?_eq_getElem h1]; exact List.getElem_mem h1, decide_eq_true hw⟩
  · rw [hg m (by omega)] at hz
    cases hz
    show (deedW S (rows.getD m []) == wd) = false
    rw [beq_eq_false_iff_ne]
    intro e
    have := h3 m hm
    rw [(hp _).mp e] at this
    cases this
theorem no_word {wd : Str} {S : List NestedKey} {rows : Rws} {p : List PyData → Bool} (hp : ∀ r, deedW S r = wd ↔ p r = true) (h : (List.range rows.length).find? (fun n => p (rows.getD n [])) = none) : inW wd S rows = false := by
  unfold inW
  rw [List.any_eq_false]
  intro r hr e
  have e := of_decide_eq_true e
  obtain ⟨i, hi⟩ := List.getElem?_of_mem hr
  rw [List.find?_range_eq_none] at h
  have := h i (List.getElem?_eq_some_iff.mp hi).1
  rw [List.getD_eq_getElem?_getD, hi] at this
  have e2 := (hp r).mp e
  simp [e2] at this
def spSteps : Sp := fun vs H Q _ => ∃ (v1 v2 : V) (rows : Rws) (lits : List PyData), vs = [v1, v2] ∧ Dt H v1 (.list (rows.map PyData.tuple)) ∧ Dt H v2 (.list lits) ∧ (∀ r ∈ rows, rowD (.tuple r) = true ∧ r.length ≤ 1000) ∧ (∀ l ∈ lits, litD l = true) ∧ rows.length ≤ 1000 ∧ lits.length ≤ 1000 ∧
  ∀ v H2, Ex H H2 → Dt H2 v (resD rows lits) → Q v H2
theorem encS_key {st : List (PyData × Nat)} (h : ∀ p ∈ st, litD p.1 = true) : keysD (st.map encS) = true := keysD_iff.mpr fun d hd => by
  obtain ⟨p, hp, rfl⟩ := List.mem_map.mp hd
  simp [encS, keyD, keysD, (lit_key (h p hp)).1]
abbrev N_law_steps : List Str := ["rows", "literals", "stands", "literal", "steps", "turn", "deeds", "row", "words", "deed", "n"]
theorem sc_law_steps : FnScope N_law_steps ["rows", "literals"] (defScope (top 54)) := ⟨rfl, rfl, rfl, by decide +kernel, rfl, by decide +kernel, by decide +kernel⟩
theorem ok_steps (T : Txt K mg) (C__law_deed : Cal P w K mg base CX0 2 "_law_deed" ["stands", "row"] (spDeed P w)) : Cal P w K mg base CX0 3 "_law_steps" ["rows", "literals"] spSteps := by
  refine mkCal T.g__law_steps T.d__law_steps sc_law_steps (fun _ _ _ _ _ _ us hl => match us, hl with | [_, _], _ => rfl) (fun vs H Q E h => ?_) fun cdv A outer s0 H vs Q E hr h => ?_
  · obtain ⟨_, _, _, _, rfl, _⟩ := h; rfl
  obtain ⟨v1, v2, rows, lits, rfl, hd1, hd2, hrows, hlits, zr, zl, q⟩ := h
  refine ⟨_, (pss_cons (ps_set (i := 2) sc_law_steps.nd rfl (Or.inr rfl) pe_dnewN)
      (pss_cons (ps_for PassesOwn.never rfl (piL (K := K) (pv 1)) (pg_name (i := 3) sc_law_steps.nd rfl (Or.inl rfl)) (pss_one (ps_nput (hu9 hr) (pv 2) (pv 3) pe_int rfl)))
      (pss_cons (ps_set (i := 4) sc_law_steps.nd rfl (Or.inl rfl) (pe_lst pa_nil))
      (pss_cons (ps_for PassesOwn.never rfl (pi_range1 (by rfl) T.n_range (pa_cons (pe_op op_add (pe_callB (lenL (K := K)) (by rfl) T.n_len PySem.boot_len (pa_cons (pv 0) pa_nil)) pe_int) pa_nil)) (pg_name (i := 5) sc_law_steps.nd rfl (Or.inl rfl)) (pss_cons (ps_setLc (i := 6) (own := [("row", 7)]) (g := gName 7) rfl sc_law_steps.nd rfl rfl (sw_true rfl rfl rfl (by decide +kernel)) (piL (K := K) (pv 0)) (blkOk_by (N := N_law_steps) (sc := defScope (top 54)) (by decide +kernel)) (fun _ _ _ _ _ => (pg_name (i := 7) sc_law_steps.nd rfl (Or.inl rfl))) (fun _ _ _ _ _ => pts_nil) (fun _ _ _ _ _ => (pe_cal (E := E0) C__law_deed (hr.mono (by decide)) pass0 (pa_cons (pv 2) (pa_cons (pv 7) pa_nil)))))
      (pss_cons (ps_setLc (i := 8) (own := [("deed", 9)]) (g := gName 9) rfl sc_law_steps.nd rfl rfl (sw_true rfl rfl rfl (by decide +kernel)) (piL (K := K) (pv 6)) (blkOk_by (N := N_law_steps) (sc := defScope (top 54)) (by decide +kernel)) (fun _ _ _ _ _ => (pg_name (i := 9) sc_law_steps.nd rfl (Or.inl rfl))) (fun _ _ _ _ _ => pts_nil) (fun _ _ _ _ _ => (pe_ix (ixT (K := K)) (pv 9) pe_int (fun _ _ => rfl))))
      (pss_cons (ps_if (pt_cmpR (inL (K := K)) pe_str (pv 8) (by rfl)) (pss_one (ps_ret (pe_tup (pa_cons pe_str (pa_cons (pv 4) (pa_cons (pe_bm PySem.F.plainAttrs_list PySem.F.slot_list_index PySem.F.type_list_index (idxL (K := K)) (pv 8) (pa_cons pe_str pa_nil)) pa_nil)))))) pss_nil)
      (pss_cons (ps_if (pt_cmpR (ninL (K := K)) pe_str (pv 8) (by rfl)) (pss_one ps_break) pss_nil)
      (pss_cons (ps_set (i := 10) sc_law_steps.nd rfl (Or.inl rfl) (pe_bm PySem.F.plainAttrs_list PySem.F.slot_list_index PySem.F.type_list_index (idxL (K := K)) (pv 8) (pa_cons pe_str pa_nil)))
      (pss_cons (ps_nput (hu9 hr) (pv 2) (pe_ix (ixT (K := K)) (pe_ix (ixL (K := K)) (pv 6) (pv 10) (fun _ _ => rfl)) pe_int (fun _ _ => rfl)) pe_int rfl)
      (pss_one (ps_expr (pe_bm PySem.F.plainAttrs_list PySem.F.slot_list_append PySem.F.type_list_append mt_append (pv 4) (pa_cons (pe_tup (pa_cons (pe_ix (ixT (K := K)) (pe_ix (ixL (K := K)) (pv 6) (pv 10) (fun _ _ => rfl)) pe_int (fun _ _ => rfl)) (pa_cons (pv 10) pa_nil))) pa_nil)))))))))))
      (pss_one (ps_ret (pe_tup (pa_cons pe_str (pa_cons (pv 4) pa_nil))))))))), ?_⟩
  obtain ⟨ra, xs, rfl, hra, hxs⟩ := dt_list hd1
  obtain ⟨la, ys, rfl, hla, hys⟩ := dt_list hd2
  have xl := dta_len hxs
  rw [List.length_map] at xl
  have yl := dta_len hys
  refine fun sd hsd => ?_
  have hla0 := Evl.Ex.new hsd (o := DNo P w sd [] []) _ _ hla
  refine ⟨_, rfl, la, rfl, ⟨ys, SqL.of hla0⟩, ?_⟩
  refine for_it walk_list (fun i σ' H' => ∃ lv kv, σ' = [some (.ref ra), some (.ref la), some (.ref sd), lv, none, none, none, none, none, none, none] ∧ Ex H H' ∧ DN P w H' sd kv ∧ kv.length ≤ i ∧ ∀ k, (valV kv k).isSome = true ↔ k ∈ (lits.take i).map nk)
    ⟨none, [], rfl, Evl.Ex.new hsd, dn_new, Nat.le_refl _, fun k => by simp [valV]⟩ (fun i σ' H' hi ⟨_, _, _, e, _⟩ => SqL.of (e _ _ hla)) ?_ ?_
  · rintro i v σ' H' H2 hi ⟨lv, kv, rfl, e1, dn, hkl, hkv⟩ ⟨rfl, hv⟩
    obtain ⟨di, hdi, hti⟩ := dta_get hys hv
    have htk : lits.take (i + 1) = lits.take i ++ [di] := by rw [List.take_succ, hdi]; rfl
    refine ⟨_, rfl, _, rfl, sd, kv, nk di, rfl, dn, ky_lit (ex_dt e1 _ _ hti) (hlits di (List.mem_of_getElem? hdi)), Nat.lt_of_le_of_lt (show kv.length ≤ 1000 by omega) (sz _ (by omega)), fun H4 on d4 => ?_⟩
    refine ⟨_, _, rfl, only_ex e1 on hsd, d4, by have := length_putK kv (nk di) (.int 0); omega, fun k => ?_⟩
    rw [valN_put, htk, List.map_append, List.mem_append, Bool.or_eq_true, decide_eq_true_iff, hkv k]
    simp [or_comm]
  rintro σ' H1 ⟨lv, kv, rfl, e1, dn, hkl, hkv⟩
  rw [yl, List.take_length] at hkv
  refine ⟨szl 0 (by omega), fun l hl => ?_⟩
  have e2 := e1.trans (Evl.Ex.new hl (o := .lst []))
  have hl0 := Evl.fresh_back e1 hl
  obtain ⟨φ, hφ⟩ := dn.isx
  have nsl : sd ≠ l := ne_of_none hφ hl
  refine ⟨_, rfl, ra, xs, rfl, .inl (SqL.of (e2 _ _ hra)), _, 1, rfl, rfl, _, rfl, by omega, by omega, ?_⟩
  refine for_it walk_range (fun i σ' H' => ∃ tv dv rv wv ev nv kv ss st, σ' = [some (.ref ra), some (.ref la), some (.ref sd), lv, some (.ref l), tv, dv, rv, wv, ev, nv] ∧ Ex H H' ∧ DN P w H' sd kv ∧ kv.length ≤ lits.length + i ∧ (∀ k, (valV kv k).isSome = true ↔ k ∈ (lits ++ st.map (·.1)).map nk) ∧
      H' l = some (.lst ss) ∧ DtAll H' ss (st.map encS) ∧ (∀ p ∈ st, litD p.1 = true) ∧ Along rows lits st ∧ st.length = i)
    ⟨none, none, none, none, none, none, kv, [], [], rfl, e2, dn.ex (Evl.Ex.new hl), by omega, (by simpa using hkv), upd_same, .nil, (fun p hp => by cases hp), along_0 _ _, rfl⟩ (fun _ _ _ _ _ => trivial) ?_ ?_
  · rintro i x σ' H' H'' hi ⟨tv, dv, rv, wv, ev, nv, kv, ss, st, rfl, e3, dn3, hkl3, hkv3, hl3, hss, hstl, al, hst⟩ ⟨rfl, rfl⟩
    have un := al.un
    -- deeds
    refine ⟨_, rfl, ra, rfl, ⟨xs, SqL.of (e3 _ _ hra)⟩, fun D hD => ?_⟩
    refine lcW (M := NoM) walk_list (Evl.Ex.refl H'') (fun H' e => SqL.of ((e3.trans e) _ _ hra)) (by omega) (fun j y G => ∃ q x, y = .ref q ∧ G q = some (.tup [.str (deedW ((lits ++ st.map (·.1)).map nk) (rows.getD j [])), x]) ∧ (deedW ((lits ++ st.map (·.1)).map nk) (rows.getD j []) = Str.ofString "along" → Dt G x (openOf ((lits ++ st.map (·.1)).map nk) (rows.getD j []))))
      (fun _ _ _ _ e ⟨q, x, h1, h2, h3⟩ => ⟨q, x, h1, e _ _ h2, fun z => ex_dt e _ _ (h3 z)⟩) (fun _ => true) (fun j => [some (.ref ra), some (.ref la), some (.ref sd), lv, some (.ref l), some (.int (0 + (i : Int))), dv, some (xs.getD j .non), wv, ev, nv])
      (fun j u G' H' H'' hj a' yy Q q => ?_) (fun _ _ => rfl) (fun j G' H' hj a' Q q => yes_t a'.gh q) (fun j G' H' hj _ a' Q q => ?_) (fun _ _ z => z) hD (fun zs G' H' a' gD hD' hsel => ?_)
    · exact turn_name a' yy (by rw [List.getD_eq_getElem?_getD]; simp [hj]) q
    · have hx : xs[j]? = some (xs.getD j .non) := by rw [List.getD_eq_getElem?_getD, List.getElem?_eq_getElem hj]; rfl
      obtain ⟨dj, hdj, htj⟩ := dta_get hxs hx
      rw [List.getElem?_map] at hdj
      obtain ⟨r, hr1, rfl⟩ := Option.map_eq_some_iff.mp hdj
      have hgr : rows.getD j [] = r := by rw [List.getD_eq_getElem?_getD, hr1]; rfl
      have hrm := hrows r (List.mem_of_getElem? hr1)
      have ea := a'.gg.trans a'.gh
      rw [hgr] at q
      refine ⟨_, rfl, _, rfl, G', sd, kv, _, r, _, rfl, a'.gh, dn3.ex ea, hkv3, ex_dt (e3.trans a'.gg) _ _ htj, row_lits hrm.1, hrm.2, fun p x H2 e hp h1 h2 => ?_⟩
      have sm := stp_mix a'.gh e
      exact q _ _ _ sm ⟨p, x, rfl, (mix_new hp).trans h1, fun z => ex_dt sm.gg _ _ (h2 z)⟩
    have hzl := (sel_all hsel).1
    have hzi := (sel_all hsel).2
    have eD := a'.gg.trans a'.gh
    have hS : ∀ S : List NestedKey, (rows.map fun r => V.str (deedW S r)).all flatV = true := fun S => by rw [List.all_map, List.all_eq_true]; intro _ _; rfl
    refine ⟨_, rfl, D, rfl, ⟨zs, SqL.of hD'⟩, fun W hW => ?_⟩
    refine lcF (K := K) walk_list (fun H' e => SqL.of (e _ _ hD')) (by omega) (fun _ => true) (fun j => .str (deedW ((lits ++ st.map (·.1)).map nk) (rows.getD j []))) (fun j => [some (.ref ra), some (.ref la), some (.ref sd), lv, some (.ref l), some (.int (0 + (i : Int))), some (.ref D), rv, wv, some (zs.getD j .non), nv])
      (fun j u G' H' H'' hj a' yy Q q => turn_name (σ0 := [some (.ref ra), some (.ref la), some (.ref sd), lv, some (.ref l), some (.int (0 + (i : Int))), some (.ref D), rv, wv, none, nv]) (j := 9) a' yy (by rw [List.getD_eq_getElem?_getD]; simp [hj]) q) (fun _ _ => rfl) (fun j H' hj e Q q => q H' (Evl.Ex.refl _)) (fun j H' hj _ e Q q => ?_) hW (fun H5 e5 hq hq2 => ?_)
    · obtain ⟨y, hy, q1, x1, rfl, h1, h2⟩ := hzi j (by omega)
      have hgz : zs.getD j .non = .ref q1 := by rw [List.getD_eq_getElem?_getD, hy]; rfl
      exact ⟨_, rfl, q1, _, 0, _, hgz, rfl, SqT.of (e _ _ (a'.gh _ _ h1)), rfl, q H' (Evl.Ex.refl _)⟩
    have hwl : ((List.range zs.length).filter fun _ => true).map (fun j => V.str (deedW ((lits ++ st.map (·.1)).map nk) (rows.getD j []))) = rows.map fun r => V.str (deedW ((lits ++ st.map (·.1)).map nk) r) := by
      rw [List.filter_eq_self.mpr fun _ _ => rfl, hzl, xl]
      exact range_map rows [] (fun r => V.str (deedW ((lits ++ st.map (·.1)).map nk) r))
    rw [hwl] at hq hq2
    have eH5 := eD.trans e5
    have e35 := e3.trans eH5
    have hl5 := eH5 _ _ hl3
    have hss5 := ex_dta eH5 hss
    have dn5 := dn3.ex eH5

    refine ⟨_, rfl, W, _, rfl, .inl hq, rfl, hS _, _, rfl, ?_⟩
    rw [if_neg (by decide), inv_strs]
    cases hb : brkN rows ((lits ++ st.map (·.1)).map nk) with
    | some n =>
      obtain ⟨w1, w2, w3, w4⟩ := first_word (p := isBrk _) (fun r => deed_brk) hb
      rw [w2]
      refine ite2 (fun _ => ?_) (fun z => absurd rfl z)
      refine ⟨_, rfl, _, rfl, .inl ⟨rfl, _, hq⟩, W, _, _, n, _, rfl, rfl, hq, rfl, hS _, w3, (show (Str.ofString "broken" == Str.ofString "broken") = true from by decide +kernel), w4, szl 3 (by omega), fun p hp => ?_⟩
      have ep := Evl.Ex.new hp (o := .tup [.str "broken", .ref l, .int (n : Int)])
      refine q _ _ (e35.trans ep) ?_
      have hst2 := al.done (.inl (by rw [hb]; rfl))
      unfold resD
      rw [hst2, hb]
      exact .tup upd_same (.cons (.str _) (.cons (.lst (ep _ _ hl5) (ex_dta ep hss5)) (.cons (.int _) .nil)))
    | none =>
    rw [no_word (p := isBrk _) (fun r => deed_brk) hb]
    refine ite2 (fun z => absurd z (by decide)) (fun _ => ?_)
    refine ⟨_, rfl, W, _, rfl, .inl hq, rfl, hS _, _, rfl, ?_⟩
    rw [if_pos rfl, inv_strs]
    cases hg : goN rows ((lits ++ st.map (·.1)).map nk) with
    | none =>
      rw [no_word (p := isGo _) (fun r => deed_go) hg]
      refine ite2 (fun _ => ?_) (fun z => absurd rfl z)
      refine ⟨_, rfl, szl 2 (by omega), fun p hp => ?_⟩
      have ep := Evl.Ex.new hp (o := .tup [.str "stands", .ref l])
      refine q _ _ (e35.trans ep) ?_
      have hst2 := al.done (.inr hg)
      unfold resD
      rw [hst2, hb]
      exact .tup upd_same (.cons (.str _) (.cons (.lst (ep _ _ hl5) (ex_dta ep hss5)) .nil))
    | some n =>
    obtain ⟨w1, w2, w3, w4⟩ := first_word (p := isGo _) (fun r => deed_go) hg
    rw [w2]
    refine ite2 (fun z => absurd z (by decide)) (fun _ => ?_)
    refine ⟨_, rfl, .inl ⟨rfl, _, hq⟩, W, _, _, n, _, rfl, rfl, hq, rfl, hS _, w3, (show (Str.ofString "along" == Str.ofString "along") = true from by decide +kernel), w4, ?_⟩
    obtain ⟨g1, g2, g3⟩ := go_unmet hg
    obtain ⟨o1, o2, o3, o4⟩ := open_of g2
    have al2 := al.go hb hg
    have hrk : rowD (.tuple (rows.getD n [])) = true := (hrows _ (by rw [List.getD_eq_getElem?_getD, List.getElem?_eq_getElem g1]; exact List.getElem_mem g1)).1
    have hlo := row_lits hrk _ o1
    obtain ⟨y, hy, q1, x1, rfl, h1, h2⟩ := hzi n (by omega)
    have h2 := h2 (deed_go.mpr g2)
    generalize ho : openOf ((lits ++ st.map (·.1)).map nk) (rows.getD n []) = lo at o1 o2 o3 h2 hlo al2
    have hD5 := e5 _ _ hD'
    have h15 := e5 _ _ (a'.gh _ _ h1)
    have hx5 := ex_dt (a'.gh.trans e5) _ _ h2
    refine ⟨_, rfl, _, rfl, _, rfl, D, zs, (n : Int), _, rfl, rfl, SqL.of hD5, at_nat hy, q1, _, 1, _, rfl, rfl, SqT.of h15, rfl, sd, kv, nk lo, rfl, dn5, ky_lit hx5 hlo, Nat.lt_of_le_of_lt (show kv.length ≤ 3000 by omega) (sz _ (by omega)), fun H6 on6 d6 => ?_⟩
    have tp6 := dn5.ts on6
    have hl6 : H6 l = some (.lst ss) := (on6 l (dn5.ne hl5 (fun _ z => nomatch z))).trans hl5
    have hD6 : H6 D = some (.lst zs) := (on6 D (dn5.ne hD5 (fun _ z => nomatch z))).trans hD5
    have h16 := tp6 _ _ h15
    have e36 := only_ex e35 on6 hsd
    refine ⟨_, rfl, .inl ⟨rfl, _, SqL.of hl6⟩, _, rfl, _, rfl, D, zs, (n : Int), _, rfl, rfl, SqL.of hD6, at_nat hy, q1, _, 1, _, rfl, rfl, SqT.of h16, rfl, _, rfl, szl 2 (by omega), fun p hp => ?_⟩
    have ep := Evl.Ex.new hp (o := .tup [x1, .int (n : Int)])
    have hl7 := ep _ _ hl6
    have nlp : l ≠ p := ne_of_none hl6 hp
    have sl := dta_len hss
    rw [List.length_map] at sl
    refine ⟨l, ss, _, rfl, rfl, hl7, Nat.lt_of_le_of_lt (show ss.length ≤ 2000 by omega) (sz _ (by omega)), ?_⟩
    have tp7 := tps_mut (o := .lst (ss ++ [.ref p])) hl7
    have tpA := (TpS.trans tp6 (TpS.ex ep)).trans tp7
    have dn7 := (d6.ex ep).mv (upd_ne (by obtain ⟨φ2, hφ2⟩ := (d6.ex ep).isx; exact ne_of hφ2 hl7 (fun z => nomatch z))) tp7
    refine ⟨_, _, _, _, _, _, _, _, st ++ [(lo, n)], rfl, ex_mut (e36.trans ep) hl0, dn7, ?_, fun k => ?_, upd_same, ?_, fun p' hp' => ?_, al2, by simp [hst]⟩
    · have := length_putK kv (nk lo) (.int 0); omega
    · rw [valN_put, Bool.or_eq_true, decide_eq_true_iff, hkv3 k]
      simp [or_comm, or_assoc]
      exact or_left_comm
    · rw [List.map_append]
      refine Hx.dta_app (dta_ts tpA (encS_key hstl) hss5) (.cons (.tup (tp7 _ _ upd_same) (.cons (dt_ts tpA _ _ (lit_key hlo).1 hx5) (.cons (.int _) .nil))) .nil)
    · rcases List.mem_append.mp hp' with h | h
      · exact hstl p' h
      · rw [List.mem_singleton.mp h]; exact hlo
  · rintro σ' H' ⟨tv, dv, rv, wv, ev, nv, kv, ss, st, rfl, e3, dn3, hkl3, hkv3, hl3, hss, hstl, al, hst⟩
    have un := al.un
    omega
end
end K21
/-! chains, and many rows that are alike: plainly -/
namespace M21
open PySem PySem.Spec PyProof.Rows Hx
/-- the walk by formula -/
theorem along_by {rows : Rws} {lits : List PyData} (f : Nat → PyData × Nat) : ∀ N, (∀ j, j < N → brkN rows ((lits ++ ((List.range j).map f).map (·.1)).map nk) = none ∧ goN rows ((lits ++ ((List.range j).map f).map (·.1)).map nk) = some (f j).2 ∧ openOf ((lits ++ ((List.range j).map f).map (·.1)).map nk) (rows.getD (f j).2 []) = (f j).1) → Along rows lits ((List.range N).map f)
  | 0, _ => along_0 _ _
  | N + 1, h => by
    have a := along_by f N fun j hj => h j (by omega)
    obtain ⟨h1, h2, h3⟩ := h N (by omega)
    have := a.go h1 h2
    rw [h3] at this
    rw [List.range_succ, List.map_append]
    exact this
theorem res_stands {rows : Rws} {lits : List PyData} {st : List (PyData × Nat)} (a : Along rows lits st) (hb : brkN rows ((lits ++ st.map (·.1)).map nk) = none) (hg : goN rows ((lits ++ st.map (·.1)).map nk) = none) :
    resD rows lits = .tuple [.str (Str.ofString "stands"), .list (st.map encS)] := by
  unfold resD
  rw [a.done (.inr hg), hb]
theorem res_broken {rows : Rws} {lits : List PyData} {st : List (PyData × Nat)} {n : Nat} (a : Along rows lits st) (hb : brkN rows ((lits ++ st.map (·.1)).map nk) = some n) :
    resD rows lits = .tuple [.str (Str.ofString "broken"), .list (st.map encS), .int n] := by
  unfold resD
  rw [a.done (.inl (by rw [hb]; rfl)), hb]
theorem met_perm {S : List NestedKey} {r r' : List PyData} (h : r.Perm r') : metOf S r = metOf S r' := (h.filter _).length_eq
theorem left_perm {S : List NestedKey} {r r' : List PyData} (h : r.Perm r') : leftOf S r = leftOf S r' := (h.filter _).length_eq
def edge (lk : Nat → PyData) (i : Nat) : List PyData := [negD (lk i), lk (i + 1)].mergeSort leD2
theorem edge_perm (lk : Nat → PyData) (i : Nat) : (edge lk i).Perm [negD (lk i), lk (i + 1)] := List.mergeSort_perm _ _
theorem fst_neg {d : PyData} (h : litD d = true) : fstD (negD d) = fstD d := by
  obtain ⟨a, b, rfl, ha⟩ := lit_shape h
  rfl
/-- literals of unlike atoms -/
structure Lk (m : Nat) (lk : Nat → PyData) : Prop where
  lit : ∀ i, i < m → litD (lk i) = true
  ne : ∀ i j, i < m → j < m → fstD (lk i) = fstD (lk j) → i = j
section
variable {m : Nat} {lk : Nat → PyData} {S : List NestedKey} {p q : Nat → Bool}
theorem Lk.key (h : Lk m lk) {i j : Nat} (hi : i < m) (hj : j < m) : nk (lk i) = nk (lk j) ↔ i = j :=
  ⟨fun e => h.ne i j hi hj (by rw [nk_lit (h.lit i hi) (h.lit j hj) e]), fun e => by rw [e]⟩
theorem Lk.keyN (h : Lk m lk) {i j : Nat} (hi : i < m) (hj : j < m) : nk (negD (lk i)) ≠ nk (lk j) := fun e => by
  have h1 := nk_lit (neg_lit (h.lit i hi)) (h.lit j hj) e
  have h2 := fst_neg (h.lit i hi)
  rw [h1] at h2
  have := h.ne j i hj hi h2
  subst this
  exact neg_ne (h.lit j hj) e
theorem Lk.keyNN (h : Lk m lk) {i j : Nat} (hi : i < m) (hj : j < m) : nk (negD (lk i)) = nk (negD (lk j)) ↔ i = j :=
  ⟨fun e => (h.key hi hj).mp (by rw [key_neg (h.lit i hi) (neg_lit (h.lit j hj)), neg_neg (h.lit j hj)] at e; exact e), fun e => by rw [e]⟩
/-- what stands -/
def Like (m : Nat) (lk : Nat → PyData) (S : List NestedKey) (p q : Nat → Bool) : Prop := ∀ i, i < m → (nk (lk i) ∈ S ↔ p i = true) ∧ (nk (negD (lk i)) ∈ S ↔ q i = true)
theorem edge_met (h : Lk m lk) (l : Like m lk S p q) {i : Nat} (hi : i + 1 < m) : metOf S (edge lk i) = (if q i = true then 1 else 0) + (if p (i + 1) = true then 1 else 0) := by
  rw [met_perm (edge_perm lk i), metOf_cons, metOf_cons]
  simp only [(l i (by omega)).2, (l (i + 1) hi).1]
  simp [metOf]
theorem edge_left (h : Lk m lk) (l : Like m lk S p q) {i : Nat} (hi : i + 1 < m) : leftOf S (edge lk i) = (if ¬ q i = true ∧ ¬ p i = true then 1 else 0) + (if ¬ p (i + 1) = true ∧ ¬ q (i + 1) = true then 1 else 0) := by
  rw [left_perm (edge_perm lk i), leftOf_cons, leftOf_cons, neg_neg (h.lit i (by omega))]
  simp only [(l i (by omega)).2, (l (i + 1) hi).1, (l i (by omega)).1, (l (i + 1) hi).2]
  simp [leftOf]
theorem edge_go (h : Lk m lk) (l : Like m lk S p q) {i : Nat} (hi : i + 1 < m) : isGo S (edge lk i) = true ↔ q i = false ∧ p (i + 1) = false ∧ ((p i = true ∧ q (i + 1) = false) ∨ (p i = false ∧ q (i + 1) = true)) := by
  unfold isGo
  rw [decide_eq_true_iff, edge_met h l hi, edge_left h l hi]
  cases q i <;> cases p (i + 1) <;> cases p i <;> cases q (i + 1) <;> simp
theorem edge_brk (h : Lk m lk) (l : Like m lk S p q) {i : Nat} (hi : i + 1 < m) : isBrk S (edge lk i) = true ↔ q i = false ∧ p (i + 1) = false ∧ p i = true ∧ q (i + 1) = true := by
  unfold isBrk
  rw [decide_eq_true_iff, edge_met h l hi, edge_left h l hi]
  cases q i <;> cases p (i + 1) <;> cases p i <;> cases q (i + 1) <;> simp
theorem edge_open (h : Lk m lk) {i : Nat} (hi : i + 1 < m) (g : isGo S (edge lk i) = true) : (nk (lk i) ∈ S → openOf S (edge lk i) = lk (i + 1)) ∧ (nk (negD (lk (i + 1))) ∈ S → openOf S (edge lk i) = negD (lk i)) := by
  obtain ⟨h1, h2, h3, _⟩ := open_of g
  have h1 := (edge_perm lk i).mem_iff.mp h1
  rw [List.mem_cons, List.mem_singleton] at h1
  refine ⟨fun z => ?_, fun z => ?_⟩
  · rcases h1 with h1 | h1
    · rw [h1, neg_neg (h.lit i (by omega))] at h3; exact absurd z h3
    · exact h1
  · rcases h1 with h1 | h1
    · exact h1
    · rw [h1] at h3; exact absurd z h3
/-- rows of a chain in a sequence -/
structure Laid (m : Nat) (lk : Nat → PyData) (pl : List Nat) (rows : Rws) : Prop where
  ok : Lk m lk
  m2 : 2 ≤ m
  pm : pl.Perm (List.range (m - 1))
  len : m - 1 ≤ rows.length
  row : ∀ n, n < m - 1 → rows.getD n [] = edge lk (pl.getD n 0)
variable {pl : List Nat} {rows : Rws}
theorem Laid.plen (L : Laid m lk pl rows) : pl.length = m - 1 := by rw [L.pm.length_eq, List.length_range]
theorem Laid.pn (L : Laid m lk pl rows) : pl.Nodup := L.pm.nodup_iff.mpr List.nodup_range
theorem Laid.pmem (L : Laid m lk pl rows) {c : Nat} : c ∈ pl ↔ c < m - 1 := by rw [L.pm.mem_iff, List.mem_range]
theorem Laid.lt (L : Laid m lk pl rows) {n : Nat} (hn : n < m - 1) : pl.getD n 0 + 1 < m := by
  have : pl.getD n 0 ∈ pl := by rw [List.getD_eq_getElem?_getD, List.getElem?_eq_getElem (by rw [L.plen]; exact hn)]; exact List.getElem_mem _
  have := L.pmem.mp this
  omega
theorem Laid.idx (L : Laid m lk pl rows) {c : Nat} (hc : c < m - 1) : pl.idxOf c < m - 1 ∧ pl.getD (pl.idxOf c) 0 = c := by
  have h1 := List.idxOf_lt_length_iff.mpr (L.pmem.mpr hc)
  refine ⟨by rw [← L.plen]; exact h1, ?_⟩
  rw [List.getD_eq_getElem?_getD, List.getElem?_eq_getElem h1]
  exact List.getElem_idxOf h1
theorem Laid.inj (L : Laid m lk pl rows) {i j : Nat} (hi : i < m - 1) (hj : j < m - 1) (e : pl.getD i 0 = pl.getD j 0) : i = j := by
  have hi : i < pl.length := by rw [L.plen]; exact hi
  have hj : j < pl.length := by rw [L.plen]; exact hj
  rw [List.getD_eq_getElem?_getD, List.getElem?_eq_getElem hi, List.getD_eq_getElem?_getD, List.getElem?_eq_getElem hj] at e
  have e : pl[i] = pl[j] := e
  have := List.pairwise_iff_getElem.mp L.pn
  rcases Nat.lt_trichotomy i j with h | h | h
  · exact absurd e (this i j hi hj h)
  · exact h
  · exact absurd e.symm (this j i hj hi h)
theorem Laid.go (L : Laid m lk pl rows) {c : Nat} (hc : c < m - 1) (h : ∀ i, i < m - 1 → (isGo S (edge lk i) = true ↔ i = c)) : goN rows S = some (pl.idxOf c) ∧ rows.getD (pl.idxOf c) [] = edge lk c := by
  obtain ⟨h1, h2⟩ := L.idx hc
  have e1 : rows.getD (pl.idxOf c) [] = edge lk c := by rw [L.row _ h1, h2]
  refine ⟨?_, e1⟩
  unfold goN
  rw [List.find?_range_eq_some]
  refine ⟨by rw [e1]; exact (h c hc).mpr rfl, List.mem_range.mpr (Nat.lt_of_lt_of_le h1 L.len), fun j hj => ?_⟩
  have hj1 : j < m - 1 := by omega
  rw [L.row j hj1]
  cases e : isGo S (edge lk (pl.getD j 0)) with
  | false => rfl
  | true =>
    have := (h _ (by have := L.lt hj1; omega)).mp e
    have := L.inj hj1 h1 (by rw [this, h2])
    omega
theorem Laid.noGo (L : Laid m lk pl rows) (hl : rows.length = m - 1) (h : ∀ i, i < m - 1 → ¬ isGo S (edge lk i) = true) : goN rows S = none := by
  unfold goN
  rw [List.find?_range_eq_none]
  intro n hn
  rw [hl] at hn
  rw [L.row n hn]
  have := h _ (by have := L.lt hn; omega : pl.getD n 0 < m - 1)
  simpa using this
theorem Laid.noBrk (L : Laid m lk pl rows) (h : ∀ i, i < m - 1 → ¬ isBrk S (edge lk i) = true) (h2 : ∀ n, m - 1 ≤ n → n < rows.length → isBrk S (rows.getD n []) = false) : brkN rows S = none := by
  unfold brkN
  rw [List.find?_range_eq_none]
  intro n hn
  by_cases hn2 : n < m - 1
  · rw [L.row n hn2]
    have := h _ (by have := L.lt hn2; omega : pl.getD n 0 < m - 1)
    simpa using this
  · rw [h2 n (by omega) hn]; rfl
/-- keys of literals -/
theorem like_up (h : Lk m lk) {a j : Nat} (ha : a + j < m) (f : Nat → PyData × Nat) (hf : ∀ t, t < j → (f t).1 = lk (a + t + 1)) : Like m lk (([lk a] ++ ((List.range j).map f).map (·.1)).map nk) (fun i => decide (a ≤ i ∧ i ≤ a + j)) (fun _ => false) := fun i hi => by
  have mem : ∀ k, k ∈ (([lk a] ++ ((List.range j).map f).map (·.1)).map nk) ↔ ∃ t, t ≤ j ∧ k = nk (lk (a + t)) := fun k => by
    rw [List.mem_map]
    constructor
    · rintro ⟨x, hx, rfl⟩
      rcases List.mem_append.mp hx with hx | hx
      · rw [List.mem_singleton.mp hx]; exact ⟨0, by omega, rfl⟩
      · obtain ⟨y, hy, rfl⟩ := List.mem_map.mp hx
        obtain ⟨t, ht, rfl⟩ := List.mem_map.mp hy
        have ht := List.mem_range.mp ht
        exact ⟨t + 1, by omega, by rw [hf t ht]; rfl⟩
    · rintro ⟨t, ht, rfl⟩
      refine ⟨_, ?_, rfl⟩
      cases t with
      | zero => exact List.mem_append_left _ (List.mem_singleton.mpr rfl)
      | succ t => exact List.mem_append_right _ (List.mem_map.mpr ⟨f t, List.mem_map.mpr ⟨t, List.mem_range.mpr (by omega), rfl⟩, hf t (by omega)⟩)
  refine ⟨?_, ?_⟩
  · rw [mem, decide_eq_true_iff]
    constructor
    · rintro ⟨t, ht, e⟩
      have := (h.key hi (by omega)).mp e
      omega
    · rintro ⟨h1, h2⟩
      exact ⟨i - a, by omega, by rw [show a + (i - a) = i by omega]⟩
  · rw [mem]
    refine ⟨fun ⟨t, ht, e⟩ => absurd e (h.keyN hi (by omega)), fun z => by cases z⟩
theorem like_down (h : Lk m lk) {j : Nat} (hj : j < m) (f : Nat → PyData × Nat) (hf : ∀ t, t < j → (f t).1 = negD (lk (m - 2 - t))) : Like m lk (([negD (lk (m - 1))] ++ ((List.range j).map f).map (·.1)).map nk) (fun _ => false) (fun i => decide (m - 1 - j ≤ i)) := fun i hi => by
  have mem : ∀ k, k ∈ (([negD (lk (m - 1))] ++ ((List.range j).map f).map (·.1)).map nk) ↔ ∃ t, t ≤ j ∧ k = nk (negD (lk (m - 1 - t))) := fun k => by
    rw [List.mem_map]
    constructor
    · rintro ⟨x, hx, rfl⟩
      rcases List.mem_append.mp hx with hx | hx
      · rw [List.mem_singleton.mp hx]; exact ⟨0, by omega, rfl⟩
      · obtain ⟨y, hy, rfl⟩ := List.mem_map.mp hx
        obtain ⟨t, ht, rfl⟩ := List.mem_map.mp hy
        have ht := List.mem_range.mp ht
        exact ⟨t + 1, by omega, by rw [hf t ht, show m - 2 - t = m - 1 - (t + 1) by omega]⟩
    · rintro ⟨t, ht, rfl⟩
      refine ⟨_, ?_, rfl⟩
      cases t with
      | zero => exact List.mem_append_left _ (List.mem_singleton.mpr rfl)
      | succ t => exact List.mem_append_right _ (List.mem_map.mpr ⟨f t, List.mem_map.mpr ⟨t, List.mem_range.mpr (by omega), rfl⟩, by rw [hf t (by omega), show m - 2 - t = m - 1 - (t + 1) by omega]⟩)
  refine ⟨?_, ?_⟩
  · rw [mem]
    refine ⟨fun ⟨t, ht, e⟩ => absurd e.symm (h.keyN (by omega) hi), fun z => by cases z⟩
  · rw [mem, decide_eq_true_iff]
    constructor
    · rintro ⟨t, ht, e⟩
      have := (h.keyNN hi (by omega)).mp e
      omega
    · intro h1
      exact ⟨m - 1 - i, by omega, by rw [show m - 1 - (m - 1 - i) = i by omega]⟩
abbrev stepC (lk : Nat → PyData) (pl : List Nat) (i : Nat) : PyData × Nat := (lk (i + 1), pl.idxOf i)
/-- what stands behind a link -/
theorem up_along (L : Laid m lk pl rows) {a : Nat} (ha : a < m) (hx : ∀ (j n : Nat), a + j < m - 1 → m - 1 ≤ n → n < rows.length → isBrk (([lk a] ++ ((List.range j).map fun t => stepC lk pl (a + t)).map (·.1)).map nk) (rows.getD n []) = false) :
    Along rows [lk a] ((List.range (m - 1 - a)).map fun t => stepC lk pl (a + t)) := by
  refine along_by _ _ fun j hj => ?_
  have l := like_up L.ok (a := a) (j := j) (by omega) (fun t => stepC lk pl (a + t)) (fun _ _ => rfl)
  have hgo : ∀ i, i < m - 1 → (isGo (([lk a] ++ ((List.range j).map fun t => stepC lk pl (a + t)).map (·.1)).map nk) (edge lk i) = true ↔ i = a + j) := fun i hi => by
    rw [edge_go L.ok l (by omega)]
    simp
    omega
  obtain ⟨g1, g2⟩ := L.go (c := a + j) (by omega) hgo
  refine ⟨L.noBrk (fun i hi => ?_) (hx j · (by omega)), g1, ?_⟩
  · rw [edge_brk L.ok l (by omega)]; simp
  · show openOf _ (rows.getD (pl.idxOf (a + j)) []) = lk (a + j + 1)
    rw [g2]
    exact (edge_open L.ok (by omega) ((hgo _ (by omega)).mpr rfl)).1 ((l (a + j) (by omega)).1.mpr (by simp))
theorem res_up (L : Laid m lk pl rows) (hl : rows.length = m - 1) {a : Nat} (ha : a < m) : resD rows [lk a] = .tuple [.str (Str.ofString "stands"), .list ((((List.range (m - 1)).map (stepC lk pl)).drop a).map encS)] := by
  have al := up_along L ha (fun j n _ h1 h2 => by omega)
  have l := like_up L.ok (a := a) (j := m - 1 - a) (by omega) (fun t => stepC lk pl (a + t)) (fun _ _ => rfl)
  have e : ((List.range (m - 1 - a)).map fun t => stepC lk pl (a + t)) = ((List.range (m - 1)).map (stepC lk pl)).drop a := by
    apply List.ext_getElem?
    intro i
    rw [List.getElem?_map, List.getElem?_drop, List.getElem?_map]
    by_cases h : i < m - 1 - a
    · rw [List.getElem?_range h, List.getElem?_range (by omega)]; rfl
    · rw [List.getElem?_eq_none (by rw [List.length_range]; omega), List.getElem?_eq_none (by rw [List.length_range]; omega)]; rfl
  rw [res_stands al (L.noBrk (fun i hi => by rw [edge_brk L.ok l (by omega)]; simp) (fun n h1 h2 => by omega)) (L.noGo hl fun i hi => by rw [edge_go L.ok l (by omega)]; simp; omega), e]
theorem res_down (L : Laid m lk pl rows) (hl : rows.length = m - 1) : resD rows [negD (lk (m - 1))] = .tuple [.str (Str.ofString "stands"), .list (((List.range (m - 1)).map fun j => (negD (lk (m - 2 - j)), pl.idxOf (m - 2 - j))).map encS)] := by
  have hm := L.m2
  have al : Along rows [negD (lk (m - 1))] ((List.range (m - 1)).map fun j => (negD (lk (m - 2 - j)), pl.idxOf (m - 2 - j))) := by
    refine along_by _ _ fun j hj => ?_
    have l := like_down L.ok (j := j) (by omega) (fun t => (negD (lk (m - 2 - t)), pl.idxOf (m - 2 - t))) (fun _ _ => rfl)
    have hgo : ∀ i, i < m - 1 → (isGo (([negD (lk (m - 1))] ++ ((List.range j).map fun t => (negD (lk (m - 2 - t)), pl.idxOf (m - 2 - t))).map (·.1)).map nk) (edge lk i) = true ↔ i = m - 2 - j) := fun i hi => by
      rw [edge_go L.ok l (by omega)]
      simp
      omega
    obtain ⟨g1, g2⟩ := L.go (c := m - 2 - j) (by omega) hgo
    refine ⟨L.noBrk (fun i hi => ?_) (fun n h1 h2 => by omega), g1, ?_⟩
    · rw [edge_brk L.ok l (by omega)]; simp
    · show openOf _ (rows.getD (pl.idxOf (m - 2 - j)) []) = _
      rw [g2]
      exact (edge_open L.ok (by omega) ((hgo _ (by omega)).mpr rfl)).2 ((l (m - 2 - j + 1) (by omega)).2.mpr (by simp; omega))
  have l := like_down L.ok (j := m - 1) (by omega) (fun t => (negD (lk (m - 2 - t)), pl.idxOf (m - 2 - t))) (fun _ _ => rfl)
  exact res_stands al (L.noBrk (fun i hi => by rw [edge_brk L.ok l (by omega)]; simp) (fun n h1 h2 => by omega)) (L.noGo hl fun i hi => by rw [edge_go L.ok l (by omega)]; simp)
theorem Laid.more (L : Laid m lk pl rows) (r : List PyData) : Laid m lk pl (rows ++ [r]) := ⟨L.ok, L.m2, L.pm, by rw [List.length_append]; have := L.len; omega, fun n hn => by
  rw [List.getD_eq_getElem?_getD, List.getElem?_append_left (by have := L.len; omega), ← List.getD_eq_getElem?_getD]; exact L.row n hn⟩
theorem one_met (l : Like m lk S p q) (h : Lk m lk) {i : Nat} (hi : i < m) : isBrk S [negD (lk i)] = (!q i && p i) := by
  unfold isBrk
  rw [Bool.eq_iff_iff, decide_eq_true_iff, metOf_cons, leftOf_cons, neg_neg (h.lit i hi)]
  simp only [(l i hi).1, (l i hi).2]
  cases q i <;> cases p i <;> simp [metOf, leftOf]
theorem res_more (L : Laid m lk pl rows) (hl : rows.length = m - 1) : resD (rows ++ [[negD (lk (m - 1))]]) [lk 0] = .tuple [.str (Str.ofString "broken"), .list (((List.range (m - 1)).map (stepC lk pl)).map encS), .int (m - 1 : Nat)] := by
  have hm := L.m2
  have L2 := L.more [negD (lk (m - 1))]
  have hlast : (rows ++ [[negD (lk (m - 1))]]).getD (m - 1) [] = [negD (lk (m - 1))] := by rw [List.getD_eq_getElem?_getD, ← hl]; simp
  have al := up_along L2 (a := 0) (by omega) (fun j n hj h1 h2 => by
    rw [List.length_append, hl] at h2
    have : n = m - 1 := by simp at h2; omega
    subst this
    have l := like_up L.ok (a := 0) (j := j) (by omega) (fun t => stepC lk pl (0 + t)) (fun _ _ => rfl)
    rw [hlast, one_met l L.ok (by omega)]
    simp
    omega)
  have l := like_up L.ok (a := 0) (j := m - 1) (by omega) (fun t => stepC lk pl (0 + t)) (fun _ _ => rfl)
  have e0 : (List.range (m - 1 - 0)).map (fun t => stepC lk pl (0 + t)) = (List.range (m - 1)).map (stepC lk pl) := by
    rw [Nat.sub_zero]
    exact List.map_congr_left fun t _ => by rw [Nat.zero_add]
  have e1 : (List.range (m - 1)).map (fun t => stepC lk pl (0 + t)) = (List.range (m - 1)).map (stepC lk pl) := List.map_congr_left fun t _ => by rw [Nat.zero_add]
  rw [e0] at al
  rw [e1] at l
  refine res_broken al ?_
  unfold brkN
  rw [List.find?_range_eq_some]
  refine ⟨?_, List.mem_range.mpr (by rw [List.length_append, hl]; simp), fun j hj => ?_⟩
  · rw [hlast, one_met l L.ok (by omega)]; simp
  · rw [L2.row j hj]
    have := edge_brk L.ok l (i := pl.getD j 0) (L.lt hj)
    cases e : isBrk (([lk 0] ++ ((List.range (m - 1)).map (stepC lk pl)).map (·.1)).map nk) (edge lk (pl.getD j 0)) with
    | false => rfl
    | true => have := this.mp e; simp at this
theorem edge_row (h : Lk m lk) {i : Nat} (hi : i + 1 < m) : rowD (.tuple (edge lk i)) = true := by
  refine row_sort (fun x hx => ?_) ?_
  · rcases List.mem_cons.mp hx with rfl | hx
    · exact neg_lit (h.lit i (by omega))
    · rw [List.mem_singleton.mp hx]; exact h.lit _ hi
  · refine List.nodup_cons.mpr ⟨fun z => ?_, by simp⟩
    rw [List.mem_singleton] at z
    exact h.keyN (i := i) (j := i + 1) (by omega) hi (by rw [z])
theorem edge_len (lk : Nat → PyData) (i : Nat) : (edge lk i).length = 2 := by rw [(edge_perm lk i).length_eq]; rfl
end
/-- rows that are alike -/
theorem res_great {r : List PyData} {k n : Nat} (hn : 1 ≤ n) (hr : ∀ x ∈ r, litD x = true) (nd : (r.map fun d => nk (fstD d)).Nodup) (hk : k < r.length) :
    resD (List.replicate n r) ((r.map negD).eraseIdx k) = .tuple [.str (Str.ofString "stands"), .list [.tuple [r[k], .int 0]]] := by
  have hL : ∀ i j, (hi : i < r.length) → (hj : j < r.length) → fstD r[i] = fstD r[j] → i = j := fun i j hi hj e => by
    have := List.pairwise_iff_getElem.mp nd
    simp only [List.length_map, List.getElem_map] at this
    rcases Nat.lt_trichotomy i j with h | h | h
    · exact absurd (by rw [e]) (this i j hi hj h)
    · exact h
    · exact absurd (by rw [e]) (this j i hj hi h)
  have h : Lk r.length (fun i => r.getD i .none) := ⟨fun i hi => by rw [List.getD_eq_getElem?_getD, List.getElem?_eq_getElem hi]; exact hr _ (List.getElem_mem hi), fun i j hi hj e => by
    rw [List.getD_eq_getElem?_getD, List.getElem?_eq_getElem hi, List.getD_eq_getElem?_getD, List.getElem?_eq_getElem hj] at e
    exact hL i j hi hj e⟩
  have hg : ∀ i, (hi : i < r.length) → r.getD i .none = r[i] := fun i hi => by rw [List.getD_eq_getElem?_getD, List.getElem?_eq_getElem hi]; rfl
  have mem : ∀ x, x ∈ (r.map negD).eraseIdx k ↔ ∃ i, i < r.length ∧ i ≠ k ∧ x = negD (r.getD i .none) := fun x => by
    rw [List.mem_eraseIdx_iff_getElem]
    constructor
    · rintro ⟨i, hi, h1, rfl⟩
      rw [List.length_map] at hi
      exact ⟨i, hi, h1, by rw [hg i hi, List.getElem_map]⟩
    · rintro ⟨i, hi, h1, rfl⟩
      exact ⟨i, by rw [List.length_map]; exact hi, h1, by rw [hg i hi, List.getElem_map]⟩
  -- what stands at first
  have like0 : Like r.length (fun i => r.getD i .none) (((r.map negD).eraseIdx k).map nk) (fun _ => false) (fun i => decide (i ≠ k)) := fun i hi => by
    refine ⟨?_, ?_⟩
    · rw [List.mem_map]
      refine ⟨fun ⟨x, hx, e⟩ => ?_, fun z => by cases z⟩
      obtain ⟨j, hj, h1, rfl⟩ := (mem x).mp hx
      exact absurd e (h.keyN hj hi)
    · rw [List.mem_map, decide_eq_true_iff]
      constructor
      · rintro ⟨x, hx, e⟩
        obtain ⟨j, hj, h1, rfl⟩ := (mem x).mp hx
        have := (h.keyNN hj hi).mp e
        omega
      · intro h1
        exact ⟨_, (mem _).mpr ⟨i, hi, h1, rfl⟩, rfl⟩
  have met0 : metOf (((r.map negD).eraseIdx k).map nk) r = 0 := by
    unfold metOf
    rw [List.length_eq_zero_iff, List.filter_eq_nil_iff]
    intro x hx
    obtain ⟨i, hi, rfl⟩ := List.getElem_of_mem hx
    have this : nk (r.getD i .none) ∈ _ ↔ false = true := (like0 i hi).1
    rw [hg i hi] at this
    simp only [decide_eq_true_eq]
    intro z
    have := this.mp z
    cases this
  have fil : r.filter (openB (((r.map negD).eraseIdx k).map nk)) = [r[k]] := by
    have sp : r = r.take k ++ r[k] :: r.drop (k + 1) := by
      conv => lhs; rw [← List.take_append_drop k r]
      rw [List.drop_eq_getElem_cons hk]
    have ob : ∀ i, (hi : i < r.length) → openB (((r.map negD).eraseIdx k).map nk) r[i] = decide (i = k) := fun i hi => by
      have h1 : nk (r.getD i .none) ∈ _ ↔ false = true := (like0 i hi).1
      have h2 : nk (negD (r.getD i .none)) ∈ _ ↔ decide (i ≠ k) = true := (like0 i hi).2
      rw [hg i hi] at h1 h2
      unfold openB
      rw [Bool.eq_iff_iff, decide_eq_true_iff, decide_eq_true_iff, h1, h2]
      simp
    generalize hS : ((r.map negD).eraseIdx k).map nk = S at ob
    have e1 : (r.take k).filter (openB S) = [] := List.filter_eq_nil_iff.mpr fun x hx => by
      obtain ⟨i, hi, rfl⟩ := List.getElem_of_mem hx
      rw [List.length_take] at hi
      rw [List.getElem_take, ob i (by omega)]
      simp; omega
    have e2 : (r.drop (k + 1)).filter (openB S) = [] := List.filter_eq_nil_iff.mpr fun x hx => by
      obtain ⟨i, hi, rfl⟩ := List.getElem_of_mem hx
      rw [List.length_drop] at hi
      rw [List.getElem_drop, ob _ (by omega)]
      simp; omega
    have e3 := ob k hk
    have : r.filter (openB S) = (r.take k ++ r[k] :: r.drop (k + 1)).filter (openB S) := by rw [← sp]
    rw [this, List.filter_append, List.filter_cons, e1, e2, if_pos (by rw [e3]; simp)]
    rfl
  have left0 : leftOf (((r.map negD).eraseIdx k).map nk) r = 1 := by
    have : leftOf (((r.map negD).eraseIdx k).map nk) r = (r.filter (openB (((r.map negD).eraseIdx k).map nk))).length := rfl
    rw [this, fil]; rfl
  have gd : ∀ j, j < n → (List.replicate n r).getD j [] = r := fun j hj => by rw [List.getD_eq_getElem?_getD, List.getElem?_replicate, if_pos hj]; rfl
  have op : openOf (((r.map negD).eraseIdx k).map nk) r = r[k] := by unfold openOf; rw [fil]; rfl
  have al : Along (List.replicate n r) ((r.map negD).eraseIdx k) ((List.range 1).map fun _ => (r[k], 0)) := along_by _ _ fun j hj => by
    have : j = 0 := by omega
    subst this
    rw [List.range_zero, List.map_nil, List.map_nil, List.append_nil]
    refine ⟨?_, ?_, ?_⟩
    · unfold brkN
      rw [List.find?_range_eq_none]
      intro i hi
      rw [List.length_replicate] at hi
      rw [gd i hi]
      simp [isBrk, left0]
    · unfold goN
      rw [List.find?_range_eq_some]
      refine ⟨?_, List.mem_range.mpr (by rw [List.length_replicate]; omega), fun i hi => by omega⟩
      show isGo _ ((List.replicate n r).getD 0 []) = true
      rw [gd 0 (by omega)]
      simp [isGo, met0, left0]
    · show openOf _ ((List.replicate n r).getD 0 []) = _
      rw [gd 0 (by omega)]
      exact op
  have m1 : 0 < metOf ((((r.map negD).eraseIdx k) ++ ((List.range 1).map fun _ => (r[k], 0)).map (·.1)).map nk) r := metOf_pos (List.getElem_mem hk) (by simp)
  refine res_stands al ?_ ?_
  · unfold brkN
    rw [List.find?_range_eq_none]
    intro i hi
    rw [List.length_replicate] at hi
    rw [gd i hi]
    simp only [isBrk]
    simp only [Bool.not_eq_true', decide_eq_false_iff_not]
    exact fun z => by have := z.1; omega
  · unfold goN
    rw [List.find?_range_eq_none]
    intro i hi
    rw [List.length_replicate] at hi
    rw [gd i hi]
    simp only [isGo]
    simp only [Bool.not_eq_true', decide_eq_false_iff_not]
    exact fun z => by have := z.1; omega
end M21
/-! how great an answer is: plainly -/
namespace M21
open PySem PySem.Spec PyProof.Rows Hx
open K21 (nodes nodesL nodesL_app row_lits)
theorem lit_nodes {d : PyData} (h : litD d = true) : nodes d ≤ 7 := by
  obtain ⟨a, b, rfl, ha⟩ := lit_shape h
  rcases atom_shape ha with ⟨k, x, rfl⟩ | ⟨k, x, y, rfl⟩ | ⟨k, x, y, n, rfl⟩ <;> simp [nodes, nodesL]
theorem steps_nodes : ∀ {st : List (PyData × Nat)}, (∀ p ∈ st, litD p.1 = true) → nodesL (st.map encS) ≤ 9 * st.length
  | [], _ => by simp [nodesL]
  | p :: st, h => by
    have h1 := lit_nodes (h p (List.mem_cons_self ..))
    have h2 := steps_nodes (st := st) fun x hx => h x (List.mem_cons_of_mem _ hx)
    rw [List.map_cons, nodesL, List.length_cons]
    have : nodes (encS p) = nodes p.1 + 2 := by simp [encS, nodes, nodesL]
    omega
theorem go_lits {rows : Rws} (h : ∀ r ∈ rows, ∀ x ∈ r, litD x = true) : ∀ (f : Nat) (S : List PyData), (∀ p ∈ goSteps rows f S, litD p.1 = true) ∧ (goSteps rows f S).length ≤ f
  | 0, S => ⟨fun p hp => by simp [goSteps] at hp, Nat.le_refl _⟩
  | f + 1, S => by
    rw [goSteps]
    cases hb : brkN rows (S.map nk) with
    | some n => exact ⟨fun p hp => by simp at hp, by simp⟩
    | none =>
      dsimp only
      cases hg : goN rows (S.map nk) with
      | none => exact ⟨fun p hp => by simp at hp, by simp⟩
      | some n =>
        dsimp only
        obtain ⟨h1, h2, _⟩ := find_is hg
        obtain ⟨i1, i2⟩ := go_lits h f (S ++ [openOf (S.map nk) (rows.getD n [])])
        refine ⟨fun p hp => ?_, by rw [List.length_cons]; omega⟩
        rcases List.mem_cons.mp hp with rfl | hp
        · refine h (rows.getD n []) ?_ _ (open_of h2).1
          rw [List.getD_eq_getElem?_getD, List.getElem?_eq_getElem h1]; exact List.getElem_mem h1
        · exact i1 p hp
theorem told_nodes {rows : Rws} {lits : List PyData} (h : ∀ r ∈ rows, rowD (.tuple r) = true) (hl : rows.length ≤ 1000) : nodes (.list [.str (Str.ofString "told"), resD rows lits]) ≤ 100000 := by
  obtain ⟨h1, h2⟩ := go_lits (fun r hr x hx => row_lits (h r hr) x hx) (rows.length + 1) lits
  have h3 := steps_nodes h1
  have e : stepsOf rows lits = goSteps rows (rows.length + 1) lits := rfl
  rw [← e] at h2 h3
  unfold resD
  split <;> simp [nodes, nodesL] <;> omega
theorem sum_le {rows : Rws} {k : Nat} (h : ∀ r ∈ rows, r.length ≤ k) : (rows.map List.length).sum ≤ k * rows.length := by
  induction rows with
  | nil => simp
  | cons r rows ih =>
    have h1 := h r (List.mem_cons_self ..)
    have h2 := ih fun x hx => h x (List.mem_cons_of_mem _ hx)
    rw [List.map_cons, List.sum_cons, List.length_cons, Nat.mul_add]
    omega
theorem one_lits {d : PyData} (h : litD d = true) : litsD (.list [d]) = true := by
  simp [litsD, h]
section
variable {m : Nat} {lk : Nat → PyData} {pl : List Nat} {rows : Rws}
theorem Laid.mem (L : Laid m lk pl rows) (hl : rows.length = m - 1) {r : List PyData} (hr : r ∈ rows) : rowD (.tuple r) = true ∧ r.length = 2 := by
  obtain ⟨n, hn⟩ := List.getElem?_of_mem hr
  have h1 := (List.getElem?_eq_some_iff.mp hn).1
  have h2 := L.row n (by omega)
  rw [List.getD_eq_getElem?_getD, hn] at h2
  have h2 : r = edge lk (pl.getD n 0) := h2
  rw [h2]
  exact ⟨edge_row L.ok (L.lt (by omega)), edge_len _ _⟩
theorem one_row {d : PyData} (h : litD d = true) : rowD (.tuple [d]) = true := by
  show ([d].all litD && ascD [d]) = true
  simp [h, ascD]
theorem Laid.told (L : Laid m lk pl rows) (hl : rows.length = m - 1) (hm : m ≤ 100) {l : PyData} (h : litD l = true) : askD (.list (rows.map PyData.tuple)) (.list [l]) = .list [.str (Str.ofString "told"), resD rows [l]] ∧ nodes (.list [.str (Str.ofString "told"), resD rows [l]]) ≤ 100000 :=
  ⟨ask_told (fun r hr => (L.mem hl hr).1) (one_lits h) (by omega) (Nat.le_trans (sum_le (k := 2) fun r hr => by rw [(L.mem hl hr).2]; exact Nat.le_refl _) (by omega)), told_nodes (fun r hr => (L.mem hl hr).1) (by omega)⟩
theorem Laid.told2 (L : Laid m lk pl rows) (hl : rows.length = m - 1) (hm : m ≤ 100) {l e : PyData} (h : litD l = true) (he : litD e = true) : askD (.list ((rows ++ [[e]]).map PyData.tuple)) (.list [l]) = .list [.str (Str.ofString "told"), resD (rows ++ [[e]]) [l]] ∧ nodes (.list [.str (Str.ofString "told"), resD (rows ++ [[e]]) [l]]) ≤ 100000 := by
  have hr : ∀ r ∈ rows ++ [[e]], rowD (.tuple r) = true ∧ r.length ≤ 2 := fun r hr => by
    rcases List.mem_append.mp hr with hr | hr
    · exact ⟨(L.mem hl hr).1, by rw [(L.mem hl hr).2]; exact Nat.le_refl _⟩
    · rw [List.mem_singleton.mp hr]; exact ⟨one_row he, by simp⟩
  exact ⟨ask_told (fun r h => (hr r h).1) (one_lits h) (by simp; omega) (Nat.le_trans (sum_le (k := 2) fun r h => (hr r h).2) (by simp; omega)), told_nodes (fun r h => (hr r h).1) (by simp; omega)⟩
end
end M21
namespace K21
open PySem PySem.Spec PyProof.Rows L2 Hx Hd
open Evl (pss_cut tCut ex_l ex_t)
open M21
theorem perm_map {α β : Type} {f : α → β} : ∀ {ys us : List β}, ys.Perm us → ∀ {l : List α}, us = l.map f → ∃ l' : List α, l'.Perm l ∧ ys = l'.map f := by
  intro ys us h
  induction h with
  | nil => intro l e; exact ⟨l, List.Perm.refl _, e⟩
  | cons x h ih =>
    intro l e
    match l, e with
    | y :: l, e =>
      rw [List.map_cons, List.cons.injEq] at e
      obtain ⟨l', p, e2⟩ := ih e.2
      exact ⟨y :: l', p.cons _, by rw [List.map_cons, e2, e.1]⟩
  | swap x y l =>
    intro l e
    match l, e with
    | a :: b :: l, e =>
      rw [List.map_cons, List.map_cons, List.cons.injEq, List.cons.injEq] at e
      exact ⟨b :: a :: l, List.Perm.swap _ _ _, by rw [List.map_cons, List.map_cons, e.1, e.2.1, e.2.2]⟩
  | trans h1 h2 ih1 ih2 =>
    intro l e
    obtain ⟨d1, p1, k1⟩ := ih2 e
    obtain ⟨d2, p2, k2⟩ := ih1 k1
    exact ⟨d2, p2.trans p1, k2⟩
theorem r_fn {α : Type} [Inhabited α] {n : Nat} {ys : List V} {f : Nat → α → V} (hl : ys.length = n) (h : ∀ i y, ys[i]? = some y → ∃ c, y = f i c) : ∃ cs : Nat → α, ∀ i, i < n → ys[i]? = some (f i (cs i)) := by
  have : ∀ i, ∃ c, i < n → ys[i]? = some (f i c) := fun i => by
    by_cases hi : i < n
    · obtain ⟨c, hc⟩ := h i _ (List.getElem?_eq_getElem (by omega))
      exact ⟨c, fun _ => by rw [List.getElem?_eq_getElem (by omega), hc]⟩
    · exact ⟨default, fun z => absurd z hi⟩
  exact ⟨fun i => (this i).choose, fun i hi => (this i).choose_spec hi⟩
def linkD (cs : Nat → Nat) (bs : Nat → Bool) (i : Nat) : PyData := .tuple [truthD (mrk (cs i) i), .bool (bs i)]
theorem lk_link {cs : Nat → Nat} {bs : Nat → Bool} {m : Nat} (hm : m ≤ 100) : Lk m (linkD cs bs) := ⟨fun i _ => lit_mk (atom_truth _), fun i j hi hj e => by
  have e : truthD (mrk (cs i) i) = truthD (mrk (cs j) j) := e
  injection e with e
  injection e with _ e
  injection e with e
  injection e with e
  exact mrk_inj (by omega) (by omega) e⟩
section
variable {P : Program} {w : World} {K : PySem.W.Frag} {mg : Str → Option Value} {base : Heap}
def spChain : Sp := fun vs H Q _ => ∃ (s L : Addr) (m : Nat) (G : Hp), vs = [.ref s, .int m] ∧ Strm H s L ∧ Ex G H ∧ G s = none ∧ 2 ≤ m ∧ m ≤ 100 ∧
  ∀ p a1 a2 a3 xs ys zs lk pl rows G2 H2, Ga s L G H G2 H2 → G2 p = some (.lst [.ref a1, .ref a2, .ref a3]) → G2 a1 = some (.lst xs) → DtAll G2 xs (rows.map PyData.tuple) → G2 a2 = some (.lst ys) → DtAll G2 ys ((List.range m).map lk) →
    G2 a3 = some (.lst zs) → DtAll G2 zs (((List.range (m - 1)).map (stepC lk pl)).map encS) → Laid m lk pl rows → rows.length = m - 1 → Q (.ref p) H2
abbrev N_law_chain : List Str := ["stream", "many", "marks", "at", "signs", "links", "rows", "places", "laid", "steps"]
theorem sc_law_chain : FnScope N_law_chain ["stream", "many"] (defScope (top 55)) := ⟨rfl, rfl, rfl, by decide +kernel, rfl, by decide +kernel, by decide +kernel⟩
theorem ok_chain (T : Txt K mg) (C__law_next : Cal P w K mg base CX0 1 "_law_next" ["stream", "many"] spNext) (C__law_pick : Cal P w K mg base CX0 2 "_law_pick" ["stream", "rows"] spPickS) (C__law_denied : Cal P w K mg base CX0 1 "_law_denied" ["literal"] spDen)
    (C__law_shuffled : Cal P w K mg base CX0 2 "_law_shuffled" ["stream", "rows"] (spShuf K)) : Cal P w K mg base CX0 3 "_law_chain" ["stream", "many"] spChain := by
  refine mkCal T.g__law_chain T.d__law_chain sc_law_chain (fun _ _ _ _ _ _ us hl => match us, hl with | [_, _], _ => rfl) (fun vs H Q E h => ?_) fun cdv A outer s0 H vs Q E hr h => ?_
  · obtain ⟨_, _, _, _, rfl, _⟩ := h; rfl
  obtain ⟨s, L, m, G, rfl, st, eG, gs, hm2, hm, q⟩ := h
  refine ⟨_, (pss_cons (ps_set (i := 2) sc_law_chain.nd rfl (Or.inr rfl) (pe_lc (own := [("at", 3)]) (g := gName 3) rfl sc_law_chain.nd (pi_range1 (by rfl) T.n_range (pa_cons (pv 1) pa_nil)) (blkOk_by (N := N_law_chain) (sc := defScope (top 55)) (by decide +kernel)) (fun _ _ _ _ _ => (pg_name (i := 3) sc_law_chain.nd rfl (Or.inl rfl))) (fun _ _ _ _ _ => pts_nil) (fun _ _ _ _ _ => (pe_op op_add_str (pe_cal (E := E0) C__law_pick (hr.mono (by decide)) pass0 (pa_cons (pv 0) (pa_cons pe_str pa_nil))) (pe_callTy call_str_int (by rfl) T.n_str (by decide +kernel) (pa_cons (pv 3) pa_nil))))))
      (pss_cons (ps_set (i := 4) sc_law_chain.nd rfl (Or.inr rfl) (pe_lc (own := [("at", 3)]) (g := gName 3) rfl sc_law_chain.nd (pi_range1 (by rfl) T.n_range (pa_cons (pv 1) pa_nil)) (blkOk_by (N := N_law_chain) (sc := defScope (top 55)) (by decide +kernel)) (fun _ _ _ _ _ => (pg_name (i := 3) sc_law_chain.nd rfl (Or.inl rfl))) (fun _ _ _ _ _ => pts_nil) (fun _ _ _ _ _ => (pe_cmpR op_eq (pe_cal (E := E0) C__law_next (hr.mono (by decide)) pass0 (pa_cons (pv 0) (pa_cons pe_int pa_nil))) pe_int (nomark _)))))
      (pss_cons (ps_set (i := 5) sc_law_chain.nd rfl (Or.inr rfl) (pe_lc (own := [("at", 3)]) (g := gName 3) rfl sc_law_chain.nd (pi_range1 (by rfl) T.n_range (pa_cons (pv 1) pa_nil)) (blkOk_by (N := N_law_chain) (sc := defScope (top 55)) (by decide +kernel)) (fun _ _ _ _ _ => (pg_name (i := 3) sc_law_chain.nd rfl (Or.inl rfl))) (fun _ _ _ _ _ => pts_nil) (fun _ _ _ _ _ => (pe_tup (pa_cons (pe_tup (pa_cons pe_str (pa_cons (pe_ix (ixL (K := K)) (pv 2) (pv 3) (fun _ _ => rfl)) pa_nil))) (pa_cons (pe_ix (ixL (K := K)) (pv 4) (pv 3) (fun _ _ => rfl)) pa_nil))))))
      (pss_cons (ps_set (i := 6) sc_law_chain.nd rfl (Or.inr rfl) (pe_lc (own := [("at", 3)]) (g := gName 3) rfl sc_law_chain.nd (pi_range1 (by rfl) T.n_range (pa_cons (pe_op op_sub (pv 1) pe_int) pa_nil)) (blkOk_by (N := N_law_chain) (sc := defScope (top 55)) (by decide +kernel)) (fun _ _ _ _ _ => (pg_name (i := 3) sc_law_chain.nd rfl (Or.inl rfl))) (fun _ _ _ _ _ => pts_nil) (fun _ _ _ _ _ => (pe_callTy (tupOf (K := K)) (by rfl) T.n_tuple (by decide +kernel) (pa_cons (pe_callB (Hx.sortD (hu65 hr)) (by rfl) T.n_sorted (by decide +kernel) (pa_cons (pe_lst (pa_cons (pe_cal (E := E0) C__law_denied (hr.mono (by decide)) pass0 (pa_cons (pe_ix (ixL (K := K)) (pv 5) (pv 3) (fun _ _ => rfl)) pa_nil)) (pa_cons (pe_ix (ixL (K := K)) (pv 5) (pe_op op_add (pv 3) pe_int) (fun _ _ => rfl)) pa_nil))) pa_nil)) pa_nil)))))
      (pss_cons (ps_set (i := 7) sc_law_chain.nd rfl (Or.inr rfl) (pe_cal (E := E0) C__law_shuffled (hr.mono (by decide)) pass0 (pa_cons (pv 0) (pa_cons (pe_listRg rfl (by rfl) T.n_list (prg_1 (by rfl) T.n_range (pe_op op_sub (pv 1) pe_int))) pa_nil))))
      (pss_cons (ps_setLc (i := 8) (own := [("at", 3)]) (g := gName 3) rfl sc_law_chain.nd rfl rfl (sw_true rfl rfl rfl (by decide +kernel)) (piL (K := K) (pv 7)) (blkOk_by (N := N_law_chain) (sc := defScope (top 55)) (by decide +kernel)) (fun _ _ _ _ _ => (pg_name (i := 3) sc_law_chain.nd rfl (Or.inl rfl))) (fun _ _ _ _ _ => pts_nil) (fun _ _ _ _ _ => (pe_ix (ixL (K := K)) (pv 6) (pv 3) (fun _ _ => rfl))))
      (pss_cons (ps_setLc (i := 9) (own := [("at", 3)]) (g := gName 3) rfl sc_law_chain.nd rfl rfl (sw_true rfl rfl rfl (by decide +kernel)) (pi_range1 (by rfl) T.n_range (pa_cons (pe_op op_sub (pv 1) pe_int) pa_nil)) (blkOk_by (N := N_law_chain) (sc := defScope (top 55)) (by decide +kernel)) (fun _ _ _ _ _ => (pg_name (i := 3) sc_law_chain.nd rfl (Or.inl rfl))) (fun _ _ _ _ _ => pts_nil) (fun _ _ _ _ _ => (pe_tup (pa_cons (pe_ix (ixL (K := K)) (pv 5) (pe_op op_add (pv 3) pe_int) (fun _ _ => rfl)) (pa_cons (show PE _ _ (tBM K "list" (rIndex K) (tVar 7) (tCons (tVar 3) tNil)) from pe_bm PySem.F.plainAttrs_list PySem.F.slot_list_index PySem.F.type_list_index (idxL (K := K)) (pv 7) (pa_cons (pv 3) pa_nil)) pa_nil)))))
      (pss_one (ps_ret (pe_lst (pa_cons (pv 8) (pa_cons (pv 5) (pa_cons (pv 9) pa_nil))))))))))))), ?_⟩
  -- marks
  refine ⟨_, rfl, m, rfl, by omega, by omega, fun D1 hD1 => ?_⟩
  refine lcGa walk_range (Ga.refl eG st gs) (fun _ _ _ _ => trivial) (by omega) (fun i v G => ∃ c, v = .str (mrk c i)) (fun i v G G' e h => h) (fun i => [some (.ref s), some (.int m), none, some (.int (0 + (i : Int))), none, none, none, none, none, none])
    (fun i x G' H' H'' hi a e yy Q q => ?_) (fun _ _ => rfl) (fun i G' H' hi a e Q q => ?_) (fun i x G' H' H'' hi a yy => yy.1) hD1 (fun ms G1 H1 g1 e1 hms hml hmr => ?_)
  · obtain ⟨rfl, rfl⟩ := yy
    exact q rfl
  · refine ⟨_, rfl, s, L, _, rfl, a.st, by decide, by decide, fun c H3 kp3 st3 => ?_⟩
    exact ⟨_, rfl, (i : Int), congrArg (fun z => [V.int z]) (Int.zero_add _), dg_log i (by omega), _, _, rfl, rfl, sgn_len (by omega), q _ _ _ ((Ga.refl a.ge a.st a.gs).next kp3 st3) ⟨c, rfl⟩⟩
  obtain ⟨cs, hcs⟩ := r_fn (f := fun i c => V.str (mrk c i)) hml hmr
  -- signs
  refine ⟨_, rfl, m, rfl, by omega, by omega, fun D2 hD2 => ?_⟩
  refine lcGa walk_range g1 (fun _ _ _ _ => trivial) (by omega) (fun i v G => ∃ b, v = .bl b) (fun i v G G' e h => h) (fun i => [some (.ref s), some (.int m), some (.ref D1), some (.int (0 + (i : Int))), none, none, none, none, none, none])
    (fun i x G' H' H'' hi a e yy Q q => ?_) (fun _ _ => rfl) (fun i G' H' hi a e Q q => ?_) (fun i x G' H' H'' hi a yy => yy.1) hD2 (fun sg G2 H2 g2 e2 hsg hsl hsr => ?_)
  · obtain ⟨rfl, rfl⟩ := yy
    exact q rfl
  · exact ⟨_, rfl, s, L, 2, rfl, a.st, by decide, by decide, fun dd H3 _ _ kp3 st3 => ⟨rfl, q _ _ _ ((Ga.refl a.ge a.st a.gs).next kp3 st3) ⟨_, rfl⟩⟩⟩
  obtain ⟨bs, hbs⟩ := r_fn (f := fun i b => V.bl b) hsl hsr
  -- links
  have hms2 := e2 _ _ hms
  refine ⟨_, rfl, m, rfl, by omega, by omega, fun D3 hD3 => ?_⟩
  refine lcGa walk_range g2 (fun _ _ _ _ => trivial) (by omega) (fun i v G => Dt G v (linkD cs bs i)) (fun i v G G' e h => ex_dt e _ _ h) (fun i => [some (.ref s), some (.int m), some (.ref D1), some (.int (0 + (i : Int))), some (.ref D2), none, none, none, none, none])
    (fun i x G' H' H'' hi a e yy Q q => ?_) (fun _ _ => rfl) (fun i G' H' hi a e Q q => ?_) (fun i x G' H' H'' hi a yy => yy.1) hD3 (fun ls G3 H3 g3 e3 hls hll hlr => ?_)
  · obtain ⟨rfl, rfl⟩ := yy
    exact q rfl
  · refine ⟨_, rfl, _, rfl, D1, ms, _, _, rfl, rfl, SqL.of (a.ge _ _ (e _ _ hms2)), at_of (Int.zero_add _) (hcs i (by omega)), szl 2 (by omega), fun t ht => ?_⟩
    have b := (Ga.refl a.ge a.st a.gs).new ht (o := .tup [.str "truth", .str (mrk (cs i) i)])
    refine ⟨_, rfl, _, rfl, D2, sg, _, _, rfl, rfl, SqL.of (b.ge _ _ (b.gg _ _ (e _ _ hsg))), at_of (Int.zero_add _) (hbs i (by omega)), szl 2 (by omega), fun t2 ht2 => ?_⟩
    refine q _ _ _ (b.new ht2) (.tup upd_same (.cons (.tup (b.fr ht2 _ _ upd_same) (.cons (.str _) (.cons (.str _) .nil))) (.cons (.bl _) .nil)))
  have lkl : Lk m (linkD cs bs) := lk_link hm
  have hlk : ∀ i, i < m → ∃ v, ls[i]? = some v ∧ Dt G3 v (linkD cs bs i) := fun i hi => ⟨ls[i]'(by omega), List.getElem?_eq_getElem (by omega), hlr i _ (List.getElem?_eq_getElem (by omega))⟩
  have hlsd := r_dta (f := linkD cs bs) hll hlr
  generalize linkD cs bs = lk at lkl hlk hlsd
  have m1 : ((m : Int) - 1).toNat = m - 1 := by omega
  -- rows
  refine ⟨_, rfl, (m : Int), 1, rfl, rfl, _, rfl, by omega, by omega, fun D4 hD4 => ?_⟩
  refine lcGa walk_range g3 (fun _ _ _ _ => trivial) (by omega) (fun i v G => Dt G v (.tuple (edge lk i))) (fun i v G G' e h => ex_dt e _ _ h) (fun i => [some (.ref s), some (.int m), some (.ref D1), some (.int (0 + (i : Int))), some (.ref D2), some (.ref D3), none, none, none, none])
    (fun i x G' H' H'' hi a e yy Q q => ?_) (fun _ _ => rfl) (fun i G' H' hi a e Q q => ?_) (fun i x G' H' H'' hi a yy => yy.1) hD4 (fun rw G4 H4 g4 e4 hrw hrl hrr => ?_)
  · obtain ⟨rfl, rfl⟩ := yy
    exact q rfl
  · obtain ⟨v0, hv0, hd0⟩ := hlk i (by omega)
    obtain ⟨v1, hv1, hd1⟩ := hlk (i + 1) (by omega)
    obtain ⟨r, x, ad, b, rfl, hr1, hxa, hat, hld⟩ := lit_at (ex_dt e _ _ hd0) (lkl.lit i (by omega))
    have hl1 := lkl.lit (i + 1) (by omega)
    have hl0 := neg_lit (lkl.lit i (by omega))
    have hne : negD (lk i) ≠ lk (i + 1) := fun z => lkl.keyN (i := i) (j := i + 1) (by omega) (by omega) (by rw [z])
    have hedge : edge lk i = [negD (lk i), lk (i + 1)].mergeSort leD2 := rfl
    rw [hedge] at q
    have hn0 : negD (lk i) = .tuple [ad, .bool (!b)] := by rw [hld]; rfl
    rw [hn0] at q hl0
    have ga := Ga.refl a.ge a.st a.gs
    refine ⟨_, rfl, _, rfl, D3, ls, _, _, rfl, rfl, SqL.of (a.ge _ _ (e _ _ hls)), at_of (Int.zero_add _) hv0, r, x, b, rfl, a.ge _ _ hr1, fun p hp => ?_⟩
    have gb := ga.new hp (o := .tup [x, .bl (!b)])
    have eb := ga.fr hp (o := .tup [x, .bl (!b)])
    have hp1 : Dt (upd G' p (.tup [x, .bl (!b)])) (.ref p) (.tuple [ad, .bool (!b)]) := dtl upd_same (ex_dt eb _ _ hxa)
    have hv1d := ex_dt (e.trans eb) _ _ hd1
    refine ⟨_, rfl, _, rfl, _, 1, rfl, rfl, D3, ls, _, _, rfl, rfl, SqL.of (gb.ge _ _ (eb _ _ (e _ _ hls))), at_of (show (0 : Int) + (i : Int) + 1 = ((i + 1 : Nat) : Int) by omega) hv1, szl 2 (by omega), fun p2 hp2 => ?_⟩
    have gc := gb.new hp2 (o := .lst [.ref p, v1])
    have ec := gb.fr hp2 (o := .lst [.ref p, v1])
    have fl : ∀ y ∈ [PyData.tuple [ad, .bool (!b)], lk (i + 1)], litD y = true := fun y hy => by
      rcases List.mem_cons.mp hy with rfl | hy
      · exact hl0
      · rw [List.mem_singleton.mp hy]; exact hl1
    refine ⟨p2, [.ref p, v1], [PyData.tuple [ad, .bool (!b)], lk (i + 1)], _, rfl, gc.ge _ _ upd_same, gc.ge, .cons (ex_dt ec _ _ hp1) (.cons (ex_dt ec _ _ hv1d) .nil), lits_keys fl, lits_alike fl, lits_sortable fl, lits_depth fl, fun p3 ys hp3 hy hyl => ?_⟩
    refine ⟨p3, ys, rfl, .inl ⟨SqL.of upd_same, fun t ht => ?_⟩⟩
    have gd := (gc.lay hp3 (o := .lst ys)).new ht (o := .tup ys)
    exact q _ _ _ gd (.tup upd_same (ex_dta ((gc.lay hp3 (o := .lst ys)).fr ht) hy))
  -- places
  refine ⟨_, rfl, _, rfl, (m : Int), 1, rfl, rfl, _, rfl, RgOk.of_le (by omega) (by omega) (by omega) (by omega), fun p5 hp5 => ?_⟩
  have g5 := g4.new hp5 (o := .lst (rgV 0 ((m : Int) - 1)))
  have e5 := g4.fr hp5 (o := .lst (rgV 0 ((m : Int) - 1)))
  have hp5' : upd G4 p5 (.lst (rgV 0 ((m : Int) - 1))) p5 = some (.lst (rgV 0 ((m : Int) - 1))) := upd_same
  have n5 := g4.no hp5
  generalize upd G4 p5 (.lst (rgV 0 ((m : Int) - 1))) = G5 at g5 e5 hp5'
  generalize upd H4 p5 (.lst (rgV 0 ((m : Int) - 1))) = H5 at g5
  have hrg : rgV 0 ((m : Int) - 1) = (List.range (m - 1)).map fun i => V.int (i : Nat) := by
    unfold rgV
    rw [show ((m : Int) - 1 - 0).toNat = m - 1 by omega]
    exact List.map_congr_left fun i _ => by rw [Int.zero_add]
  rw [hrg] at hp5'
  refine ⟨s, L, p5, _, rfl, g5.st, SqL.of (g5.ge _ _ hp5'), n5, by rw [List.length_map, List.length_range]; omega, fun p6 ps H6 hp6 kp6 st6 hp6' pm => ?_⟩
  have n6 := g5.no hp6
  have g6 := (g5.next kp6 st6).fix (g5.dm hp6) hp6'
  have e6 : Ex G5 _ := Evl.Ex.new (p := p6) (o := .lst ps) (Evl.fresh_back g5.ge hp6)
  have hp6g : upd G5 p6 (.lst ps) p6 = some (.lst ps) := upd_same
  generalize upd G5 p6 (.lst ps) = G6 at g6 e6 hp6g
  obtain ⟨pl, hpl, rfl⟩ := perm_map pm rfl
  have pll := hpl.length_eq
  rw [List.length_range] at pll
  have hrw6 := e6 _ _ (e5 _ _ hrw)
  have e46 := e5.trans e6
  -- laid
  refine ⟨_, rfl, p6, rfl, ⟨_, SqL.of (g6.ge _ _ hp6g)⟩, fun D7 hD7 => ?_⟩
  refine lcGa walk_list g6 (fun G' H' a e => SqL.of (a.ge _ _ (e _ _ hp6g))) (by rw [List.length_map]; omega) (fun i v G => Dt G v (.tuple (edge lk (pl.getD i 0)))) (fun i v G G' e h => ex_dt e _ _ h) (fun i => [some (.ref s), some (.int m), some (.ref D1), some (.int (pl.getD i 0 : Nat)), some (.ref D2), some (.ref D3), some (.ref D4), some (.ref p6), none, none])
    (fun i x G' H' H'' hi a e yy Q q => ?_) (fun _ _ => rfl) (fun i G' H' hi a e Q q => ?_) (fun i x G' H' H'' hi a yy => yy.1) hD7 (fun ld G7 H7 g7 e7 hld hldl hldr => ?_)
  · obtain ⟨rfl, hx⟩ := yy
    have q := q rfl
    rw [List.getElem?_map] at hx
    obtain ⟨n, hn, rfl⟩ := Option.map_eq_some_iff.mp hx
    rw [List.getD_eq_getElem?_getD, hn] at q
    exact q
  · rw [List.length_map] at hi
    have hn : pl.getD i 0 < m - 1 := by
      have : pl.getD i 0 ∈ pl := by rw [List.getD_eq_getElem?_getD, List.getElem?_eq_getElem hi]; exact List.getElem_mem _
      exact List.mem_range.mp (hpl.mem_iff.mp this)
    generalize pl.getD i 0 = n at hn q
    have hg : rw[n]? = some (rw[n]'(by omega)) := List.getElem?_eq_getElem _
    exact ⟨_, rfl, _, rfl, D4, rw, _, _, rfl, rfl, SqL.of (a.ge _ _ (e _ _ hrw6)), at_nat hg, q _ _ _ (Ga.refl a.ge a.st a.gs) (ex_dt (e46.trans e) _ _ (hrr n _ hg))⟩
  rw [List.length_map] at hldl
  -- steps
  have hp67 := e7 _ _ hp6g
  have hls7 := e7 _ _ (e46 _ _ (e4 _ _ hls))
  have e37 := (e4.trans e46).trans e7
  refine ⟨_, rfl, (m : Int), 1, rfl, rfl, _, rfl, by omega, by omega, fun D8 hD8 => ?_⟩
  refine lcGa walk_range g7 (fun _ _ _ _ => trivial) (by omega) (fun i v G => Dt G v (encS (stepC lk pl i))) (fun i v G G' e h => ex_dt e _ _ h) (fun i => [some (.ref s), some (.int m), some (.ref D1), some (.int (0 + (i : Int))), some (.ref D2), some (.ref D3), some (.ref D4), some (.ref p6), some (.ref D7), none])
    (fun i x G' H' H'' hi a e yy Q q => ?_) (fun _ _ => rfl) (fun i G' H' hi a e Q q => ?_) (fun i x G' H' H'' hi a yy => yy.1) hD8 (fun zs G8 H8 g8 e8 hzs hzl hzr => ?_)
  · obtain ⟨rfl, rfl⟩ := yy
    exact q rfl
  · obtain ⟨v1, hv1, hd1⟩ := hlk (i + 1) (by omega)
    have hmem : i ∈ pl := hpl.mem_iff.mpr (List.mem_range.mpr (by omega))
    have hix := List.idxOf_lt_length_iff.mpr hmem
    have hgi : pl[pl.idxOf i]? = some i := by rw [List.getElem?_eq_getElem hix, List.getElem_idxOf hix]
    have hpn : pl.Nodup := hpl.nodup_iff.mpr List.nodup_range
    refine ⟨_, rfl, _, rfl, _, 1, rfl, rfl, D3, ls, _, _, rfl, rfl, SqL.of (a.ge _ _ (e _ _ hls7)), at_of (show (0 : Int) + (i : Int) + 1 = ((i + 1 : Nat) : Int) by omega) hv1, _, rfl, .inl ⟨rfl, _, SqL.of (a.ge _ _ (e _ _ hp67))⟩, _, rfl, p6, _, _, pl.idxOf i, .int (i : Nat), rfl, rfl, SqL.of (a.ge _ _ (e _ _ hp67)), rfl, ?_, by rw [List.getElem?_map, hgi]; rfl, ?_, fun k z hk hz => ?_, szl 2 (by omega), fun t ht => ?_⟩
    · rw [List.all_map, List.all_eq_true]; intro _ _; rfl
    · rw [Int.zero_add]; simp [eqV]
    · rw [List.getElem?_map] at hz
      obtain ⟨n, hn, rfl⟩ := Option.map_eq_some_iff.mp hz
      have hkl := (List.getElem?_eq_some_iff.mp hn).1
      have hne : n ≠ i := fun e => by
        have h1 := (List.getElem?_eq_some_iff.mp hn).2
        have h2 := (List.getElem?_eq_some_iff.mp hgi).2
        exact absurd (h1.trans (e.trans h2.symm)) (List.pairwise_iff_getElem.mp hpn k (pl.idxOf i) hkl hix hk)
      rw [Int.zero_add]
      simp [eqV]
      omega
    · have ga := Ga.refl a.ge a.st a.gs
      exact q _ _ _ (ga.new ht) (.tup upd_same (.cons (ex_dt ((e37.trans e).trans (ga.fr ht)) _ _ hd1) (.cons (.int _) .nil)))
  have hzd := r_dta (f := fun i => encS (stepC lk pl i)) hzl hzr
  have hldd := r_dta (f := fun i => PyData.tuple (edge lk (pl.getD i 0))) hldl hldr
  refine ⟨_, rfl, _, rfl, _, rfl, szl 3 (by omega), fun p9 hp9 => ?_⟩
  have g9 := g8.new hp9 (o := .lst [.ref D7, .ref D3, .ref D8])
  have e9 := g8.fr hp9 (o := .lst [.ref D7, .ref D3, .ref D8])
  have e79 := e8.trans e9
  refine q p9 D7 D3 D8 ld ls zs lk pl ((List.range (m - 1)).map fun i => edge lk (pl.getD i 0)) _ _ g9 upd_same (e79 _ _ hld) ?_ (e79 _ _ hls7) (ex_dta (e37.trans e79) hlsd) (e9 _ _ hzs) ?_ ⟨lkl, hm2, hpl, by simp, fun n hn => ?_⟩ (by simp)
  · rw [List.map_map]
    rw [pll] at hldd
    exact ex_dta e79 hldd
  · rw [List.map_map]
    rw [m1] at hzd
    exact ex_dta e9 hzd
  · rw [List.getD_eq_getElem?_getD, List.getElem?_map, List.getElem?_range hn]; rfl
end
end K21
namespace K21
open PySem PySem.Spec PyProof.Rows L2 Hx Hd
open Evl (pss_cut tCut ex_l ex_t)
open M21 L2H
def Rsd (Q : VK) (H : Hp) (nm : Str) (ys : List V) : Prop := ∀ l p H2, Ex H H2 → H2 p = some (.tup ys) → H2 l = some (.lst [.str "raised", .str nm, .ref p]) → Q (.ref l) H2
theorem Rsd.mono {Q : VK} {H H1 : Hp} {c : Str} {ys : List V} (h : Rsd Q H c ys) (e : Ex H H1) : Rsd Q H1 c ys := fun l p H2 e2 => h l p H2 (e.trans e2)
def t_hand (K : PySem.W.Frag) : Addr → Value → Option Addr → TS := fun a cls d D σ H => σ[3]? = some (some (.ref a)) ∧
  ((∃ v dd, cls = .ref (He.ga K "BadValue") ∧ d = some dd ∧ Hnd dd [("name", v)] H ∧ Rsd D.rt H "BadValue" [v]) ∨
   (∃ v dd, cls = .ref (He.ga K "TooMany") ∧ d = some dd ∧ Hnd dd [("word", v)] H ∧ Rsd D.rt H "TooMany" [v]) ∨
   (∃ v u dd, cls = .ref (He.ga K "BadLine") ∧ d = some dd ∧ Hnd dd [("word", u), ("index", v)] H ∧ Rsd D.rt H "BadLine" [v, u]))
theorem Ans.dt {H0 H : Hp} {v : V} {d : PyData} (h : Ans H0 H v d) : Dt H v d := by
  obtain ⟨p, w, l, xs, rest, ds, drest, rfl, rfl, h1, h2, h3, h4, h5⟩ := h
  exact .tup h1 (.cons (.str _) (.cons (.lst h3 h4) h5))
section
variable {P : Program} {w : World} {K : PySem.W.Frag} {mg : Str → Option Value} {base : Heap}
def spAsk : Sp := fun vs H Q _ => ∃ (v1 v2 : V) (d1 d2 : PyData), vs = [v1, v2] ∧ Dt H v1 d1 ∧ Dt H v2 d2 ∧ (∀ ds, d1 = .list ds → ds.length ≤ 100000) ∧ (∀ ds, d2 = .list ds → ds.length ≤ 2000) ∧
  ∀ v H2, Ex H H2 → Dt H2 v (askD d1 d2) → (∀ d, askD d1 d2 = .list [.str (Str.ofString "told"), d] → ∃ p f, v = .ref p ∧ H2 p = some (.lst [.str "told", f]) ∧ H p = none ∧ Ans H H2 f d) → Q v H2
abbrev N_law_ask : List Str := ["rows", "literals", "found", "error"]
theorem sc_law_ask : FnScope N_law_ask ["rows", "literals"] (defScope (top 53)) := ⟨rfl, rfl, rfl, by decide +kernel, rfl, by decide +kernel, by decide +kernel⟩
theorem ok_ask (T : Txt K mg) (C_forced : Cal P w K mg base (L2.CX P w) 6 "forced" ["rows", "literals"] (spForced K)) : Cal P w K mg base CX0 7 "_law_ask" ["rows", "literals"] spAsk := by
  obtain ⟨gF, fdF, kF, FF, bF⟩ := C_forced
  refine mkCal T.g__law_ask T.d__law_ask sc_law_ask (fun _ _ _ _ _ _ us hl => match us, hl with | [_, _], _ => rfl) (fun vs H Q E h => ?_) fun cdv A outer s0 H vs Q E hr h => ?_
  · obtain ⟨_, _, _, _, rfl, _⟩ := h; rfl
  obtain ⟨v1, v2, d1, d2, rfl, hd1, hd2, z1, z2, q⟩ := h
  refine ⟨_, (pss_cons (ps_try_as (i := 3) (tb := fun W => tAsg (tCallS (spForced K) (WE W) (tCons (tVar 0) (tCons (tVar 1) tNil))) (gName 2))
      (ts := t_hand K) (Wout := fun _ _ _ _ => False) rfl rfl sc_law_ask.nd rfl rfl ⟨rfl, by decide, Or.inl T.g_HoldError⟩ takes0
        (fun W pn xe tk _ => pss_one (ps_set (i := 2) sc_law_ask.nd rfl (Or.inl rfl) (by exact (pe_callS FF (hr.mono (by decide)) rfl gF kF bF (fun σ => passAt tk σ) (by exact (pa_cons (pv 0) (pa_cons (pv 1) pa_nil)))))))
        (fun a oe cls d pn hz hf => ⟨fun pins s σ H D I h => by
          obtain ⟨hσ, ⟨v, dd, e1, e2, hh, q⟩ | ⟨v, dd, e1, e2, hh, q⟩ | ⟨v, u, dd, e1, e2, hh, q⟩⟩ := h
          · exact PSs.run (t := tRet (tCall (spErr a dd [("name", v)] "BadValue" [v]) [] E0 (tCons (tVar 3) tNil))) (pss_one (ps_ret (pe_calP (ok_errorBadValue (fs := [("name", v)]) T rfl (hz.1.trans e1) (hz.2.trans e2) hf) (.head _) ((roomH_mark hr (some (.ref a))).mono (by decide)) (pa_cons (pv 3) pa_nil)))) pins s σ H D I ⟨_, hσ, rfl, hh, fun l p H2 h1 h2 h3 h4 h5 => q l p H2 h3 h4 h5⟩
          · exact PSs.run (t := tRet (tCall (spErr a dd [("word", v)] "TooMany" [v]) [] E0 (tCons (tVar 3) tNil))) (pss_one (ps_ret (pe_calP (ok_errorTooMany (fs := [("word", v)]) T rfl (hz.1.trans e1) (hz.2.trans e2) hf) (.head _) ((roomH_mark hr (some (.ref a))).mono (by decide)) (pa_cons (pv 3) pa_nil)))) pins s σ H D I ⟨_, hσ, rfl, hh, fun l p H2 h1 h2 h3 h4 h5 => q l p H2 h3 h4 h5⟩
          · exact PSs.run (t := tRet (tCall (spErr a dd [("word", u), ("index", v)] "BadLine" [v, u]) [] E0 (tCons (tVar 3) tNil))) (pss_one (ps_ret (pe_calP (ok_errorBadLine (fs := [("word", u), ("index", v)]) T rfl rfl (hz.1.trans e1) (hz.2.trans e2) hf) (.head _) ((roomH_mark hr (some (.ref a))).mono (by decide)) (pa_cons (pv 3) pa_nil)))) pins s σ H D I ⟨_, hσ, rfl, hh, fun l p H2 h1 h2 h3 h4 h5 => q l p H2 h3 h4 h5⟩⟩))
      (pss_one (ps_ret (pe_lst (pa_cons pe_str (pa_cons (pv 2) pa_nil)))))), ?_⟩
  have ev : ∀ (v : V) (D : Ends) (H1 : Hp), Rsd D.rt H1 "BadValue" [v] → Err (He.ga K "BadValue") [("name", v)] H1 (WE (wAs K (.ref (He.ga K "HoldError")) 3 (t_hand K) (fun _ _ _ _ => False) D) [some v1, some v2, none, none]) := fun v D H1 hq dx H6 e6 hn hx6 => ⟨true, T.x_BadValue.exm, fun _ aa haa => ⟨rfl, .inl ⟨v, dx, rfl, rfl, hx6, hq.mono e6⟩⟩, fun z => nomatch z⟩
  have et : ∀ (v : V) (D : Ends) (H1 : Hp), Rsd D.rt H1 "TooMany" [v] → Err (He.ga K "TooMany") [("word", v)] H1 (WE (wAs K (.ref (He.ga K "HoldError")) 3 (t_hand K) (fun _ _ _ _ => False) D) [some v1, some v2, none, none]) := fun v D H1 hq dx H6 e6 hn hx6 => ⟨true, T.x_TooMany.exm, fun _ aa haa => ⟨rfl, .inr (.inl ⟨v, dx, rfl, rfl, hx6, hq.mono e6⟩)⟩, fun z => nomatch z⟩
  have el : ∀ (v u : V) (D : Ends) (H1 : Hp), Rsd D.rt H1 "BadLine" [v, u] → Err (He.ga K "BadLine") [("word", u), ("index", v)] H1 (WE (wAs K (.ref (He.ga K "HoldError")) 3 (t_hand K) (fun _ _ _ _ => False) D) [some v1, some v2, none, none]) := fun v u D H1 hq dx H6 e6 hn hx6 => ⟨true, T.x_BadLine.exm, fun _ aa haa => ⟨rfl, .inr (.inr ⟨v, u, dx, rfl, rfl, hx6, hq.mono e6⟩)⟩, fun z => nomatch z⟩
  -- a refusal told
  have rs : ∀ (nm : String) (ys : List V) (ds : List PyData), askD d1 d2 = rsd nm ds → (∀ G : Hp, DtAll G ys ds) → Rsd Q H (Str.ofString nm) ys := fun nm ys ds ha hy l p H2 e h1 h2 => q (.ref l) H2 e (by rw [ha]; exact .lst h2 (.cons (.str _) (.cons (.str _) (.cons (.tup h1 (hy H2)) .nil)))) (fun d hd => by
    rw [ha] at hd
    unfold rsd at hd
    injection hd with hd
    injection hd with hd hd2
    cases hd2)
  refine ⟨_, rfl, _, rfl, v1, v2, d1, d2, rfl, hd1, hd2, z1, z2, fun hi => ?_, fun ds hds => ⟨fun i e h1 h2 h3 => ?_, fun hrow => ⟨fun hl => ?_, fun rws lits hrs hlits hl => ⟨fun h400 => ?_, fun h4 h2000 => ?_, fun h4 h20 v H2 e2 an => ?_⟩⟩⟩⟩
  · exact ev _ _ _ (rs "BadValue" _ [.str (Str.ofString "rows")] (by cases d1 <;> first | rfl | cases hi) fun G => .cons (.str _) .nil)
  · refine el _ _ _ _ (rs "BadLine" _ [.int (i : Nat), .str (Str.ofString "row")] ?_ fun G => .cons (.int _) (.cons (.str _) .nil))
    subst hds
    have hb : firstBad ds 0 = some i := by
      have e1 : ds = ds.take i ++ e :: ds.drop (i + 1) := by
        have hi := (List.getElem?_eq_some_iff.mp h1).1
        conv => lhs; rw [← List.take_append_drop i ds]
        rw [List.drop_eq_getElem_cons hi]
        congr 2
        exact (List.getElem?_eq_some_iff.mp h1).2
      have hil : (ds.take i).length = i := by rw [List.length_take]; have := (List.getElem?_eq_some_iff.mp h1).1; omega
      rw [e1, first_app h2 (fun a ha => by
        obtain ⟨j, hj⟩ := List.getElem?_of_mem ha
        have hj2 := (List.getElem?_eq_some_iff.mp hj).1
        rw [hil] at hj2
        rw [List.getElem?_take, if_pos hj2] at hj
        exact h3 j a hj2 hj), hil, Nat.zero_add]
    unfold askD; dsimp only; first | (rw [hb]; done) | (rw [hb]; rfl)
  · refine ev _ _ _ (rs "BadValue" _ [.str (Str.ofString "literals")] ?_ fun G => .cons (.str _) .nil)
    subst hds
    unfold askD; dsimp only; rw [first_none hrow]; dsimp only; rw [if_pos hl]
  · refine et _ _ _ (rs "TooMany" _ [.str (Str.ofString "lines")] ?_ fun G => .cons (.str _) .nil)
    subst hds hlits hrs
    unfold askD; dsimp only; rw [first_none hrow]; dsimp only; rw [if_neg (by rw [hl]; decide), if_pos (by rw [List.length_map]; exact h400)]
  · refine et _ _ _ (rs "TooMany" _ [.str (Str.ofString "literals")] ?_ fun G => .cons (.str _) .nil)
    subst hds hlits hrs
    have e2 : ((rws.map PyData.tuple).map fun d => (tupD d).length).sum = (rws.map List.length).sum := by rw [List.map_map]; rfl
    unfold askD; dsimp only; rw [first_none hrow]; dsimp only; rw [if_neg (by rw [hl]; decide), if_neg (by rw [List.length_map]; omega), e2, if_pos h2000]
  · subst hds hlits hrs
    have ha := ask_told (fun r hr => hrow _ (List.mem_map.mpr ⟨r, hr, rfl⟩)) hl h4 h20
    refine ⟨_, rfl, szl 2 (by omega), fun p hp => ?_⟩
    have e3 := Evl.Ex.new hp (o := .lst [.str "told", v])
    have an3 : Ans H (upd H2 p (.lst [.str "told", v])) v (resD rws lits) := by
      obtain ⟨p0, w0, l, xs, rest, ds, drest, rfl, h1, h2, h3, h4, h5, h6⟩ := an
      exact ⟨p0, w0, l, xs, rest, ds, drest, rfl, h1, e3 _ _ h2, h3, e3 _ _ h4, ex_dta e3 h5, ex_dta e3 h6⟩
    refine q _ _ (e2.trans e3) ?_ fun d hd => ?_
    · rw [ha]
      exact .lst upd_same (.cons (.str _) (.cons an3.dt .nil))
    · rw [ha] at hd
      injection hd with hd
      injection hd with _ hd
      injection hd with hd _
      subst hd
      exact ⟨p, v, rfl, upd_same, Evl.fresh_back e2 hp, an3⟩
end
end K21
namespace K21
open PySem PySem.Spec PyProof.Rows L2 Hx Hd
open Evl (pss_cut tCut ex_l ex_t)
open M21
theorem at_m1 {xs : List V} {v : V} {n : Nat} (h : xs.length = n + 1) (hv : xs[n]? = some v) : atI xs (-1) = some v := by
  unfold atI ixN
  rw [if_neg (by omega), if_pos (by omega), h]
  show xs[((-1 : Int) + ((n + 1 : Nat) : Int)).toNat]? = some v
  rw [show ((-1 : Int) + ((n + 1 : Nat) : Int)).toNat = n by omega]
  exact hv
theorem dta_range {G : Hp} {ys : List V} {f : Nat → PyData} {m i : Nat} (h : DtAll G ys ((List.range m).map f)) (hi : i < m) : ∃ v, ys[i]? = some v ∧ Dt G v (f i) := by
  obtain ⟨v, h1, h2⟩ := dta_get' h (i := i) (d := f i) (by rw [List.getElem?_map, List.getElem?_range hi]; rfl)
  exact ⟨v, h1, h2⟩
section
variable {P : Program} {w : World} {K : PySem.W.Frag} {mg : Str → Option Value} {base : Heap}
def spChains : Sp := fun vs H Q _ => ∃ (s L : Addr) (G : Hp), vs = [.ref s] ∧ Strm H s L ∧ Ex G H ∧ G s = none ∧ ∀ G2 H2, Ga s L G H G2 H2 → Q (.bl true) H2
abbrev N_law_chains : List Str := ["stream", "many", "laid", "links", "steps", "at", "back", "k", "more", "answer"]
theorem sc_law_chains : FnScope N_law_chains ["stream"] (defScope (top 56)) := ⟨rfl, rfl, rfl, by decide +kernel, rfl, by decide +kernel, by decide +kernel⟩
theorem ok_chains (T : Txt K mg) (C__law_next : Cal P w K mg base CX0 1 "_law_next" ["stream", "many"] spNext) (C__law_from : Cal P w K mg base CX0 2 "_law_from" ["stream", "low", "high"] spFrom) (C__law_chain : Cal P w K mg base CX0 3 "_law_chain" ["stream", "many"] spChain)
    (C__law_denied : Cal P w K mg base CX0 1 "_law_denied" ["literal"] spDen) (C__law_ask : Cal P w K mg base CX0 7 "_law_ask" ["rows", "literals"] spAsk) (C__law_same : Cal P w K mg base CX0 1 "_law_same" ["actual", "due"] (spSame K)) : Cal P w K mg base CX0 8 "_law_chains" ["stream"] spChains := by
  refine mkCal T.g__law_chains T.d__law_chains sc_law_chains (fun _ _ _ _ _ _ us hl => match us, hl with | [_], _ => rfl) (fun vs H Q E h => ?_) fun cdv A outer s0 H vs Q E hr h => ?_
  · obtain ⟨_, _, _, rfl, _⟩ := h; rfl
  obtain ⟨s, L, G, rfl, st, eG, gs, q⟩ := h
  refine ⟨_, (pss_cons (ps_set (i := 1) sc_law_chains.nd rfl (Or.inl rfl) (pe_cal (E := E0) C__law_from (hr.mono (by decide)) pass0 (pa_cons (pv 0) (pa_cons pe_int (pa_cons pe_int pa_nil)))))
      (pss_cons (ps_asg (pe_cal (E := E0) C__law_chain (hr.mono (by decide)) pass0 (pa_cons (pv 0) (pa_cons (pv 1) pa_nil))) (pgUnl (K := K) rfl (pgs_cons (pg_name (i := 2) sc_law_chains.nd rfl (Or.inl rfl)) (pgs_cons (pg_name (i := 3) sc_law_chains.nd rfl (Or.inr rfl)) (pgs_cons (pg_name (i := 4) sc_law_chains.nd rfl (Or.inr rfl)) pgs_nil)))))
      (pss_cons (ps_if (pt_not (pt_val (pe_cal (E := E0) C__law_same (hr.mono (by decide)) pass0 (pa_cons (pe_cal (E := E0) C__law_ask (hr.mono (by decide)) pass0 (pa_cons (pe_callTy (listOf (K := K)) (by rfl) T.n_list (by decide +kernel) (pa_cons (pv 2) pa_nil)) (pa_cons (pe_lst (pa_cons (pe_ix (ixL (K := K)) (pv 3) pe_int (fun _ _ => rfl)) pa_nil)) pa_nil))) (pa_cons (pe_lst (pa_cons pe_str (pa_cons (pe_tup (pa_cons pe_str (pa_cons (pv 4) pa_nil))) pa_nil))) pa_nil))))) (pss_one (ps_ret pe_bl)) pss_nil)
      (pss_cons (ps_set (i := 5) sc_law_chains.nd rfl (Or.inl rfl) (pe_cal (E := E0) C__law_next (hr.mono (by decide)) pass0 (pa_cons (pv 0) (pa_cons (pv 1) pa_nil))))
      (pss_cons (ps_if (pt_not (pt_val (pe_cal (E := E0) C__law_same (hr.mono (by decide)) pass0 (pa_cons (pe_cal (E := E0) C__law_ask (hr.mono (by decide)) pass0 (pa_cons (pe_callTy (listOf (K := K)) (by rfl) T.n_list (by decide +kernel) (pa_cons (pv 2) pa_nil)) (pa_cons (pe_lst (pa_cons (pe_ix (ixL (K := K)) (pv 3) (pv 5) (fun _ _ => rfl)) pa_nil)) pa_nil))) (pa_cons (pe_lst (pa_cons pe_str (pa_cons (pe_tup (pa_cons pe_str (pa_cons (pe_slice (slL (K := K)) (pv 4) (po_some (pv 5)) po_none) pa_nil))) pa_nil))) pa_nil))))) (pss_one (ps_ret pe_bl)) pss_nil)
      (pss_cons (ps_setLc (i := 6) (own := [("k", 7)]) (g := gName 7) rfl sc_law_chains.nd rfl rfl (sw_true rfl rfl rfl (by decide +kernel)) (pi_revR (by rfl) T.n_reversed (prg_1 (by rfl) T.n_range (pe_op op_sub (pv 1) pe_int))) (blkOk_by (N := N_law_chains) (sc := defScope (top 56)) (by decide +kernel)) (fun _ _ _ _ _ => (pg_name (i := 7) sc_law_chains.nd rfl (Or.inl rfl))) (fun _ _ _ _ _ => pts_nil) (fun _ _ _ _ _ => (pe_tup (pa_cons (pe_cal (E := E0) C__law_denied (hr.mono (by decide)) pass0 (pa_cons (pe_ix (ixL (K := K)) (pv 3) (pv 7) (fun _ _ => rfl)) pa_nil)) (pa_cons (pe_ix (ixT (K := K)) (pe_ix (ixL (K := K)) (pv 4) (pv 7) (fun _ _ => rfl)) pe_int (fun _ _ => rfl)) pa_nil)))))
      (pss_cons (ps_if (pt_not (pt_val (pe_cal (E := E0) C__law_same (hr.mono (by decide)) pass0 (pa_cons (pe_cal (E := E0) C__law_ask (hr.mono (by decide)) pass0 (pa_cons (pe_callTy (listOf (K := K)) (by rfl) T.n_list (by decide +kernel) (pa_cons (pv 2) pa_nil)) (pa_cons (pe_lst (pa_cons (pe_cal (E := E0) C__law_denied (hr.mono (by decide)) pass0 (pa_cons (pe_ix (ixL (K := K)) (pv 3) (pe_un un_neg pe_int) (fun _ _ => rfl)) pa_nil)) pa_nil)) pa_nil))) (pa_cons (pe_lst (pa_cons pe_str (pa_cons (pe_tup (pa_cons pe_str (pa_cons (pv 6) pa_nil))) pa_nil))) pa_nil))))) (pss_one (ps_ret pe_bl)) pss_nil)
      (pss_cons (ps_set (i := 8) sc_law_chains.nd rfl (Or.inl rfl) (pe_op op_cat (pv 2) (pe_lst (pa_cons (pe_tup (pa_cons (pe_cal (E := E0) C__law_denied (hr.mono (by decide)) pass0 (pa_cons (pe_ix (ixL (K := K)) (pv 3) (pe_un un_neg pe_int) (fun _ _ => rfl)) pa_nil)) pa_nil)) pa_nil))))
      (pss_cons (ps_set (i := 9) sc_law_chains.nd rfl (Or.inl rfl) (pe_cal (E := E0) C__law_ask (hr.mono (by decide)) pass0 (pa_cons (pe_callTy (listOf (K := K)) (by rfl) T.n_list (by decide +kernel) (pa_cons (pv 8) pa_nil)) (pa_cons (pe_lst (pa_cons (pe_ix (ixL (K := K)) (pv 3) pe_int (fun _ _ => rfl)) pa_nil)) pa_nil))))
      (pss_one (ps_ret (pe_cal (E := E0) C__law_same (hr.mono (by decide)) pass0 (pa_cons (pv 9) (pa_cons (pe_lst (pa_cons pe_str (pa_cons (pe_tup (pa_cons pe_str (pa_cons (pv 4) (pa_cons (pe_callB (lenL (K := K)) (by rfl) T.n_len PySem.boot_len (pa_cons (pv 2) pa_nil)) pa_nil)))) pa_nil))) pa_nil)))))))))))))), ?_⟩
  have g0 := Ga.refl eG st gs
  refine ⟨_, rfl, s, L, 30, 90, rfl, st, by decide, by decide, fun d H1 d0 d1 kp1 st1 => ?_⟩
  have g1 := g0.next kp1 st1
  obtain ⟨m, rfl⟩ : ∃ m : Nat, d = (m : Int) := ⟨d.toNat, by omega⟩
  refine ⟨_, rfl, _, rfl, s, L, m, G, rfl, st1, g1.ge, gs, by omega, by omega, fun p a1 a2 a3 xs ys zs lk pl rows G2 H2 b2 hp h1 hxs h2 hys h3 hzs laid hrl => ?_⟩
  have g := g1.trans b2
  have hm : m ≤ 100 := by omega
  have hm2 := laid.m2
  have hlit : ∀ i, i < m → litD (lk i) = true := fun i hi => laid.ok.lit i hi
  have xl := dta_len hxs
  rw [List.length_map] at xl
  have yl := dta_len hys
  rw [List.length_map, List.length_range] at yl
  have zl := dta_len hzs
  rw [List.length_map, List.length_map, List.length_range] at zl
  obtain ⟨y0, hy0, hd0⟩ := dta_range hys (i := 0) (by omega)
  obtain ⟨ym, hym, hdm⟩ := dta_range hys (i := m - 1) (by omega)
  have hym1 : atI ys (-1) = some ym := at_m1 (n := m - 1) (by omega) hym
  obtain ⟨rm, xm, am, bm, rfl, hrm, hxm, ham, hlm⟩ := lit_at hdm (hlit _ (by omega))
  have hnm : negD (lk (m - 1)) = .tuple [am, .bool (!bm)] := by rw [hlm]; rfl
  have z1 : ∀ (r : List PyData) (ds : List PyData), PyData.list (rows.map PyData.tuple) = .list ds → ds.length ≤ 100000 := fun _ ds h => by injection h with h; rw [← h, List.length_map]; omega
  have z2 : ∀ (l : PyData) (ds : List PyData), PyData.list [l] = .list ds → ds.length ≤ 2000 := fun l ds h => by injection h with h; rw [← h]; simp
  have due : ∀ {Hx : Hp} {st : Str} {v : V} {ds : List PyData} {t2 t3 : Addr}, Ex G2 Hx → Dt Hx v (.list ds) → Hx t2 = none → upd Hx t2 (.tup [.str st, v]) t3 = none → Ex Hx (upd (upd Hx t2 (.tup [.str st, v])) t3 (.lst [.str "told", .ref t2])) ∧ Dt (upd (upd Hx t2 (.tup [.str st, v])) t3 (.lst [.str "told", .ref t2])) (.ref t3) (.list [.str (Str.ofString "told"), .tuple [.str st, .list ds]]) := fun {Hx st v ds t2 t3} e hv ht2 ht3 => by
    have e2 := Evl.Ex.new ht2 (o := .tup [.str st, v])
    have e3 := Evl.Ex.new ht3 (o := .lst [.str "told", .ref t2])
    exact ⟨e2.trans e3, .lst upd_same (.cons (.str _) (.cons (.tup (e3 _ _ upd_same) (.cons (.str _) (.cons (ex_dt (e2.trans e3) _ _ hv) .nil))) .nil))⟩
  refine ⟨p, [.ref a1, .ref a2, .ref a3], rfl, SqL.of (g.ge _ _ hp), rfl, _, _, rfl, _, _, rfl, _, _, rfl, rfl, ?_⟩
  -- from the first link
  refine ⟨_, rfl, a1, xs, rfl, .inl (SqL.of (g.ge _ _ h1)), fun p1 hp1 => ?_⟩
  have f1 := g.ex (Evl.Ex.new hp1 (o := .lst xs))
  refine ⟨_, rfl, a2, ys, 0, y0, rfl, rfl, SqL.of (f1.ge _ _ h2), at_nat (i := 0) hy0, szl 1 (by omega), fun t ht => ?_⟩
  have f2 := f1.ex (Evl.Ex.new ht (o := .lst [y0]))
  refine ⟨.ref p1, .ref t, .list (rows.map PyData.tuple), .list [lk 0], rfl, .lst (Evl.Ex.new ht _ _ upd_same) (ex_dta f2.ge hxs), .lst upd_same (.cons (ex_dt f2.ge _ _ hd0) .nil), z1 [], z2 _, fun v H3 e3 hv _ => ?_⟩
  have f3 := f2.ex e3
  obtain ⟨k1, k2⟩ := laid.told hrl hm (hlit 0 (by omega))
  rw [k1, res_up laid hrl (a := 0) (by omega), List.drop_zero] at hv
  rw [res_up laid hrl (a := 0) (by omega), List.drop_zero] at k2
  refine ⟨_, rfl, szl 2 (by omega), fun t2 ht2 => ⟨szl 2 (by omega), fun t3 ht3 => ?_⟩⟩
  obtain ⟨e4, dd⟩ := due f3.ge (.lst (f3.ge _ _ h3) (ex_dta f3.ge hzs)) ht2 ht3
  have f4 := f3.ex e4
  refine ⟨v, .ref t3, _, rfl, ex_dt e4 _ _ hv, dd, k2, fun H5 e5 => ⟨_, rfl, ?_⟩⟩
  refine ite2 (fun h => absurd h (by decide)) (fun _ => ?_)
  have f5 := f4.ex e5
  -- from another link
  refine ⟨_, rfl, _, rfl, s, L, (m : Int), rfl, f5.st, by omega, by omega, fun d6 H6 d60 d61 kp6 st6 => ?_⟩
  obtain ⟨k, rfl⟩ : ∃ k : Nat, d6 = (k : Int) := ⟨d6.toNat, by omega⟩
  have f6 := f5.next kp6 st6
  obtain ⟨yk, hyk, hdk⟩ := dta_range hys (i := k) (by omega)
  refine ⟨_, rfl, a1, xs, rfl, .inl (SqL.of (f6.ge _ _ h1)), fun p7 hp7 => ?_⟩
  have f7 := f6.ex (Evl.Ex.new hp7 (o := .lst xs))
  refine ⟨_, rfl, _, rfl, a2, ys, (k : Int), yk, rfl, rfl, SqL.of (f7.ge _ _ h2), at_nat hyk, szl 1 (by omega), fun t8 ht8 => ?_⟩
  have f8 := f7.ex (Evl.Ex.new ht8 (o := .lst [yk]))
  refine ⟨.ref p7, .ref t8, .list (rows.map PyData.tuple), .list [lk k], rfl, .lst (Evl.Ex.new ht8 _ _ upd_same) (ex_dta f8.ge hxs), .lst upd_same (.cons (ex_dt f8.ge _ _ hdk) .nil), z1 [], z2 _, fun v9 H9 e9 hv9 _ => ?_⟩
  have f9 := f8.ex e9
  obtain ⟨k3, k4⟩ := laid.told hrl hm (hlit k (by omega))
  rw [k3, res_up laid hrl (a := k) (by omega)] at hv9
  rw [res_up laid hrl (a := k) (by omega)] at k4
  refine ⟨_, rfl, _, rfl, _, rfl, a3, zs, rfl, SqL.of (f9.ge _ _ h3), fun z10 hz10 => ?_⟩
  rw [cut_from (by omega)]
  have e10 := Evl.Ex.new hz10 (o := .lst (zs.drop k))
  have f10 := f9.ex e10
  refine ⟨szl 2 (by omega), fun t2 ht2 => ⟨szl 2 (by omega), fun t3 ht3 => ?_⟩⟩
  have hdrop := dta_drop k hzs
  rw [← List.map_drop] at hdrop
  obtain ⟨e11, dd2⟩ := due f10.ge (.lst upd_same (ex_dta f10.ge hdrop)) ht2 ht3
  have f11 := f10.ex e11
  refine ⟨v9, .ref t3, _, rfl, ex_dt (e10.trans e11) _ _ hv9, dd2, k4, fun H12 e12 => ⟨_, rfl, ?_⟩⟩
  refine ite2 (fun h => absurd h (by decide)) (fun _ => ?_)
  have f12 := f11.ex e12
  -- back
  refine ⟨_, rfl, (m : Int), 1, rfl, rfl, _, rfl, by omega, by omega, by omega, by omega, fun D hD => ?_⟩
  refine lcGa walk_rangeC (f12 : Ga s L G H G2 H12) (fun _ _ _ _ => trivial) (by omega) (fun i v G => Dt G v (encS (negD (lk (m - 2 - i)), pl.idxOf (m - 2 - i)))) (fun i v G G' e h => ex_dt e _ _ h) (fun i => [some (.ref s), some (.int m), some (.ref a1), some (.ref a2), some (.ref a3), some (.int k), none, some (.int (m - 2 - i : Nat)), none, none])
    (fun i x G' H' H'' hi a e yy Q q => ?_) (fun _ _ => rfl) (fun i G' H' hi a e Q q => ?_) (fun i x G' H' H'' hi a yy => yy.1) hD (fun bs G13 H13 g13 e13 hbs hbl hbr => ?_)
  · obtain ⟨rfl, rfl⟩ := yy
    have q := q rfl
    rw [show ((m - 2 - i : Nat) : Int) = 0 + ((((m : Int) - 1 - 0).toNat : Nat) : Int) - 1 + (i : Int) * -1 by omega] at q
    exact q
  · have hi2 : m - 2 - i < m - 1 := by omega
    generalize m - 2 - i = n at hi2 q
    obtain ⟨yn, hyn, hdn⟩ := dta_range hys (i := n) (by omega)
    obtain ⟨zn, hzn, hen⟩ := dta_get' hzs (i := n) (d := encS (stepC lk pl n)) (by rw [List.getElem?_map, List.getElem?_map, List.getElem?_range hi2]; rfl)
    obtain ⟨rt, xt, rfl, hrt, hxt⟩ := dt_tup hen
    match xt, hxt with
    | [x1, x2], .cons g1 (.cons g2 .nil) =>
    cases g2
    obtain ⟨rn, xn, an, bn, rfl, hrn, hxn, han, hln⟩ := lit_at hdn (hlit _ (by omega))
    have hnn : negD (lk n) = .tuple [an, .bool (!bn)] := by rw [hln]; rfl
    rw [hnn] at q
    have ea := e.trans a.ge
    refine ⟨_, rfl, _, rfl, a2, ys, (n : Int), _, rfl, rfl, SqL.of (ea _ _ h2), at_nat hyn, rn, xn, bn, rfl, ea _ _ hrn, fun p hp => ?_⟩
    have ga := (Ga.refl a.ge a.st a.gs).new hp (o := .tup [xn, .bl (!bn)])
    have ep := (Ga.refl a.ge a.st a.gs).fr hp (o := .tup [xn, .bl (!bn)])
    have eb := (e.trans ep).trans ga.ge
    refine ⟨_, rfl, _, rfl, a3, zs, (n : Int), _, rfl, rfl, SqL.of (eb _ _ h3), at_nat hzn, rt, _, 1, _, rfl, rfl, SqT.of (eb _ _ hrt), rfl, szl 2 (by omega), fun p2 hp2 => ?_⟩
    have ep2 := ga.fr hp2 (o := .tup [.ref p, .int (pl.idxOf n : Nat)])
    exact q _ _ _ (ga.new hp2) (.tup upd_same (.cons (dtl (ep2 _ _ upd_same) (ex_dt ((e.trans ep).trans ep2) _ _ hxn)) (.cons (.int _) .nil)))
  have hbd := r_dta (f := fun i => encS (negD (lk (m - 2 - i)), pl.idxOf (m - 2 - i))) hbl hbr
  rw [show ((m : Int) - 1 - 0).toNat = m - 1 by omega] at hbd
  have hbd : DtAll G13 bs (((List.range (m - 1)).map fun j => (negD (lk (m - 2 - j)), pl.idxOf (m - 2 - j))).map encS) := by rw [List.map_map]; exact hbd
  -- from the last link's denial
  refine ⟨_, rfl, a1, xs, rfl, .inl (SqL.of (g13.ge _ _ (e13 _ _ h1))), fun p14 hp14 => ?_⟩
  have f14 := g13.ex (Evl.Ex.new hp14 (o := .lst xs))
  refine ⟨_, rfl, 1, rfl, a2, ys, -1, _, rfl, rfl, SqL.of (f14.ge _ _ (e13 _ _ h2)), hym1, rm, xm, bm, rfl, f14.ge _ _ (e13 _ _ hrm), fun p15 hp15 => ?_⟩
  have e15 := Evl.Ex.new hp15 (o := .tup [xm, .bl (!bm)])
  have f15 := f14.ex e15
  refine ⟨szl 1 (by omega), fun t16 ht16 => ?_⟩
  have e16 := Evl.Ex.new ht16 (o := .lst [.ref p15])
  have f16 := f15.ex e16
  have hl16 : Dt _ (.ref p15) (negD (lk (m - 1))) := hnm ▸ dtl (e16 _ _ upd_same) (ex_dt f16.ge _ _ (ex_dt e13 _ _ hxm))
  refine ⟨.ref p14, .ref t16, .list (rows.map PyData.tuple), .list [negD (lk (m - 1))], rfl, .lst (e16 _ _ (e15 _ _ upd_same)) (ex_dta f16.ge (ex_dta e13 hxs)), .lst upd_same (.cons hl16 .nil), z1 [], z2 _, fun v17 H17 e17 hv17 _ => ?_⟩
  have f17 := f16.ex e17
  obtain ⟨k5, k6⟩ := laid.told hrl hm (neg_lit (hlit (m - 1) (by omega)))
  rw [k5, res_down laid hrl] at hv17
  rw [res_down laid hrl] at k6
  refine ⟨_, rfl, szl 2 (by omega), fun t2 ht2 => ⟨szl 2 (by omega), fun t3 ht3 => ?_⟩⟩
  obtain ⟨e18, dd3⟩ := due (e13.trans f17.ge) (.lst (f17.ge _ _ hbs) (ex_dta f17.ge hbd)) ht2 ht3
  have f18 := f17.ex e18
  refine ⟨v17, .ref t3, _, rfl, ex_dt e18 _ _ hv17, dd3, k6, fun H19 e19 => ⟨_, rfl, ?_⟩⟩
  refine ite2 (fun h => absurd h (by decide)) (fun _ => ?_)
  have f19 := f18.ex e19
  -- one row more
  refine ⟨_, rfl, _, rfl, 1, rfl, a2, ys, -1, _, rfl, rfl, SqL.of (f19.ge _ _ (e13 _ _ h2)), hym1, rm, xm, bm, rfl, f19.ge _ _ (e13 _ _ hrm), fun p20 hp20 => ?_⟩
  have e20 := Evl.Ex.new hp20 (o := .tup [xm, .bl (!bm)])
  have f20 := f19.ex e20
  refine ⟨szl 1 (by omega), fun t21 ht21 => ⟨szl 1 (by omega), fun t22 ht22 => ?_⟩⟩
  have e21 := Evl.Ex.new ht21 (o := .tup [.ref p20])
  have e22 := Evl.Ex.new ht22 (o := .lst [.ref t21])
  have f22 := (f20.ex e21).ex e22
  have hA : upd (upd (upd H19 p20 (.tup [xm, .bl (!bm)])) t21 (.tup [.ref p20])) t22 (.lst [.ref t21]) t22 = some (.lst [.ref t21]) := upd_same
  have hB : upd (upd (upd H19 p20 (.tup [xm, .bl (!bm)])) t21 (.tup [.ref p20])) t22 (.lst [.ref t21]) t21 = some (.tup [.ref p20]) := e22 _ _ upd_same
  have hC : upd (upd (upd H19 p20 (.tup [xm, .bl (!bm)])) t21 (.tup [.ref p20])) t22 (.lst [.ref t21]) p20 = some (.tup [xm, .bl (!bm)]) := e22 _ _ (e21 _ _ upd_same)
  generalize upd (upd (upd H19 p20 (.tup [xm, .bl (!bm)])) t21 (.tup [.ref p20])) t22 (.lst [.ref t21]) = H22 at f22 hA hB hC
  refine ⟨a1, t22, xs, _, rfl, rfl, f22.ge _ _ (e13 _ _ h1), hA, szl _ (by simp; omega), fun t23 ht23 => ?_⟩
  have e23 := Evl.Ex.new ht23 (o := .lst (xs ++ [.ref t21]))
  have f23 := f22.ex e23
  have hD23 : upd H22 t23 (.lst (xs ++ [.ref t21])) t23 = some (.lst (xs ++ [.ref t21])) := upd_same
  have hB := e23 _ _ hB
  have hC := e23 _ _ hC
  generalize upd H22 t23 (.lst (xs ++ [.ref t21])) = H23 at f23 hD23 hB hC
  have hrow : Dt H23 (.ref t21) (.tuple [negD (lk (m - 1))]) := .tup hB (.cons (hnm ▸ dtl hC (ex_dt f23.ge _ _ (ex_dt e13 _ _ hxm))) .nil)
  have hmore : DtAll H23 (xs ++ [.ref t21]) ((rows ++ [[negD (lk (m - 1))]]).map PyData.tuple) := by
    rw [List.map_append]
    exact Hx.dta_app (ex_dta f23.ge (ex_dta e13 hxs)) (.cons hrow .nil)
  refine ⟨_, rfl, t23, _, rfl, .inl (SqL.of hD23), fun p24 hp24 => ?_⟩
  have e24 := Evl.Ex.new hp24 (o := .lst (xs ++ [.ref t21]))
  have f24 := f23.ex e24
  refine ⟨_, rfl, a2, ys, 0, y0, rfl, rfl, SqL.of (f24.ge _ _ (e13 _ _ h2)), at_nat (i := 0) hy0, szl 1 (by omega), fun t25 ht25 => ?_⟩
  have e25 := Evl.Ex.new ht25 (o := .lst [y0])
  have f25 := f24.ex e25
  refine ⟨.ref p24, .ref t25, .list ((rows ++ [[negD (lk (m - 1))]]).map PyData.tuple), .list [lk 0], rfl, .lst (e25 _ _ upd_same) (ex_dta (e24.trans e25) hmore), .lst upd_same (.cons (ex_dt f25.ge _ _ (ex_dt e13 _ _ hd0)) .nil), fun ds h => (by injection h with h; rw [← h, List.length_map, List.length_append]; simp; omega), z2 _, fun v26 H26 e26 hv26 _ => ?_⟩
  have f26 := f25.ex e26
  obtain ⟨k7, k8⟩ := laid.told2 hrl hm (hlit 0 (by omega)) (neg_lit (hlit (m - 1) (by omega)))
  rw [k7, res_more laid hrl] at hv26
  rw [res_more laid hrl] at k8
  refine ⟨_, rfl, _, rfl, _, rfl, a1, xs, rfl, .inl (SqL.of (f26.ge _ _ (e13 _ _ h1))), szl 3 (by omega), fun t2 ht2 => ⟨szl 2 (by omega), fun t3 ht3 => ?_⟩⟩
  have e27 := Evl.Ex.new ht2 (o := .tup [.str "broken", .ref a3, .int (xs.length : Nat)])
  have e28 := Evl.Ex.new ht3 (o := .lst [.str "told", .ref t2])
  have e2728 := e27.trans e28
  have f28 := f26.ex e2728
  refine ⟨v26, .ref t3, _, rfl, ex_dt e2728 _ _ hv26, .lst upd_same (.cons (.str _) (.cons (.tup (e28 _ _ upd_same) (.cons (.str _) (.cons (.lst (f28.ge _ _ (e13 _ _ h3)) (ex_dta f28.ge (ex_dta e13 hzs))) (.cons (by rw [xl, hrl]; exact .int _) .nil)))) .nil)), k8, fun H29 e29 => q _ _ (f28.ex e29)⟩
end
end K21
namespace K21
open PySem PySem.Spec PyProof.Rows L2 Hx Hd
open Evl (pss_cut tCut ex_l ex_t)
open M21
theorem ask_badlits {rs : Rws} {l : PyData} (h1 : ∀ r ∈ rs, rowD (.tuple r) = true) (h2 : litsD l = false) : askD (.list (rs.map PyData.tuple)) l = rsd "BadValue" [.str (Str.ofString "literals")] := by
  have e1 : firstBad (rs.map PyData.tuple) 0 = none := first_none fun a ha => by obtain ⟨r, hr, rfl⟩ := List.mem_map.mp ha; exact h1 r hr
  unfold askD; dsimp only; rw [e1]; dsimp only; rw [if_pos h2]
theorem dta_erase {G : Hp} : ∀ {us : List V} {ds : List PyData} (k : Nat), DtAll G us ds → DtAll G (us.eraseIdx k) (ds.eraseIdx k)
  | [], _, k, h => by cases h; exact .nil
  | u :: us, _, 0, h => by cases h with | cons h1 h2 => exact h2
  | u :: us, _, k + 1, h => by cases h with | cons h1 h2 => exact .cons h1 (dta_erase k h2)
theorem neg_lits {r : List PyData} {k : Nat} (hr : ∀ x ∈ r, litD x = true) (nd : (r.map fun d => nk (fstD d)).Nodup) : litsD (.list ((r.map negD).eraseIdx k)) = true := by
  have h1 : ∀ x ∈ (r.map negD).eraseIdx k, litD x = true := fun x hx => by
    obtain ⟨y, hy, rfl⟩ := List.mem_map.mp ((List.eraseIdx_sublist _ _).subset hx)
    exact neg_lit (hr y hy)
  have h2 : (r.map negD).map (fun d => nk (fstD d)) = r.map fun d => nk (fstD d) := by
    rw [List.map_map]
    exact List.map_congr_left fun x hx => by
      show nk (fstD (negD x)) = nk (fstD x)
      rw [fst_neg (hr x hx)]
  refine LitsN.lits ⟨h1, ?_⟩
  refine List.Nodup.sublist ((List.eraseIdx_sublist _ _).map _) ?_
  rw [h2]; exact nd
section
variable {P : Program} {w : World} {K : PySem.W.Frag} {mg : Str → Option Value} {base : Heap}
def spRefus : Sp := fun vs H Q _ => ∃ (s L a ra la : Addr) (us xs ys : List V) (ds ls : List PyData) (rs : Rws) (G : Hp), vs = [.ref s, .ref ra, .ref la, .ref a] ∧ Strm H s L ∧ Ex G H ∧ G s = none ∧ G a = some (.lst us) ∧ DtAll G us ds ∧ AtomsN ds ∧ 6 ≤ ds.length ∧
  G ra = some (.lst xs) ∧ DtAll G xs (rs.map PyData.tuple) ∧ RowsN rs ∧ rs.length ≤ 50 ∧ G la = some (.lst ys) ∧ DtAll G ys ls ∧ LitsN ls ∧ ls.length ≤ 20 ∧ ∀ H2, Q (.bl true) H2
abbrev N_law_refusals : List Str := ["stream", "rows", "literals", "atoms", "bad", "due", "wrong", "wide", "deny", "literal", "spare"]
theorem sc_law_refusals : FnScope N_law_refusals ["stream", "rows", "literals", "atoms"] (defScope (top 57)) := ⟨rfl, rfl, rfl, by decide +kernel, rfl, by decide +kernel, by decide +kernel⟩
theorem ok_refus (T : Txt K mg) (C__law_next : Cal P w K mg base CX0 1 "_law_next" ["stream", "many"] spNext) (C__law_bad_rows : Cal P w K mg base CX0 5 "_law_bad_rows" ["stream", "atoms", "rows"] spBadRows) (C__law_bad_literals : Cal P w K mg base CX0 4 "_law_bad_literals" ["stream", "literals", "atoms"] spBadLits)
    (C__law_great : Cal P w K mg base CX0 2 "_law_great" ["stream", "atoms"] spGreat) (C__law_copy : Cal P w K mg base CX0 6 "_law_copy" ["value"] (spCopy 5 K)) (C__law_denied : Cal P w K mg base CX0 1 "_law_denied" ["literal"] spDen) (C__law_ask : Cal P w K mg base CX0 7 "_law_ask" ["rows", "literals"] spAsk)
    (C__law_same : Cal P w K mg base CX0 1 "_law_same" ["actual", "due"] (spSame K)) : Cal P w K mg base CX0 8 "_law_refusals" ["stream", "rows", "literals", "atoms"] spRefus := by
  refine mkCal T.g__law_refusals T.d__law_refusals sc_law_refusals (fun _ _ _ _ _ _ us hl => match us, hl with | [_, _, _, _], _ => rfl) (fun vs H Q E h => ?_) fun cdv A outer s0 H vs Q E hr h => ?_
  · obtain ⟨_, _, _, _, _, _, _, _, _, _, _, _, rfl, _⟩ := h; rfl
  obtain ⟨s, L, a, ra, la, us, xs, ys, ds, ls, rs, G, rfl, st, eG, gs, hus, hds, hat, hn, hra, hxs, hrs, hrl, hla, hys, hls, hll, q⟩ := h
  refine ⟨_, (pss_cons (ps_asg (pe_cal (E := E0) C__law_bad_rows (hr.mono (by decide)) pass0 (pa_cons (pv 0) (pa_cons (pv 3) (pa_cons (pv 1) pa_nil)))) (pgUnl (K := K) rfl (pgs_cons (pg_name (i := 4) sc_law_refusals.nd rfl (Or.inl rfl)) (pgs_cons (pg_name (i := 5) sc_law_refusals.nd rfl (Or.inl rfl)) pgs_nil))))
      (pss_cons (ps_set (i := 6) sc_law_refusals.nd rfl (Or.inl rfl) (pe_cal (E := E0) C__law_bad_literals (hr.mono (by decide)) pass0 (pa_cons (pv 0) (pa_cons (pv 2) (pa_cons (pv 3) pa_nil)))))
      (pss_cut (ps_if (PW.pt (pw_or (pt_not (pt_val (pe_cal (E := E0) C__law_same (hr.mono (by decide)) pass0 (pa_cons (pe_cal (E := E0) C__law_ask (hr.mono (by decide)) pass0 (pa_cons (pe_cal (E := E0) C__law_copy (hr.mono (by decide)) pass0 (pa_cons (pv 4) pa_nil)) (pa_cons (pe_cal (E := E0) C__law_copy (hr.mono (by decide)) pass0 (pa_cons (pv 2) pa_nil)) pa_nil))) (pa_cons (pv 5) pa_nil))))) (pw_or1 (pt_not (pt_val (pe_cal (E := E0) C__law_same (hr.mono (by decide)) pass0 (pa_cons (pe_cal (E := E0) C__law_ask (hr.mono (by decide)) pass0 (pa_cons (pe_cal (E := E0) C__law_copy (hr.mono (by decide)) pass0 (pa_cons (pv 4) pa_nil)) (pa_cons (pe_cal (E := E0) C__law_copy (hr.mono (by decide)) pass0 (pa_cons (pv 6) pa_nil)) pa_nil))) (pa_cons (pv 5) pa_nil)))))))) (pss_one (ps_ret pe_bl)) pss_nil)
      (pss_cons (ps_if (pt_not (pt_val (pe_cal (E := E0) C__law_same (hr.mono (by decide)) pass0 (pa_cons (pe_cal (E := E0) C__law_ask (hr.mono (by decide)) pass0 (pa_cons (pe_callTy (listOf (K := K)) (by rfl) T.n_list (by decide +kernel) (pa_cons (pv 1) pa_nil)) (pa_cons (pe_cal (E := E0) C__law_copy (hr.mono (by decide)) pass0 (pa_cons (pv 6) pa_nil)) pa_nil))) (pa_cons (pe_lst (pa_cons pe_str (pa_cons pe_str (pa_cons (pe_tup (pa_cons pe_str pa_nil)) pa_nil)))) pa_nil))))) (pss_one (ps_ret pe_bl)) pss_nil)
      (pss_cons (ps_asg (pe_cal (E := E0) C__law_great (hr.mono (by decide)) pass0 (pa_cons (pv 0) (pa_cons (pv 3) pa_nil))) (pgUnl (K := K) rfl (pgs_cons (pg_name (i := 7) sc_law_refusals.nd rfl (Or.inl rfl)) (pgs_cons (pg_name (i := 5) sc_law_refusals.nd rfl (Or.inl rfl)) pgs_nil))))
      (pss_cons (ps_if (pt_not (pt_val (pe_cal (E := E0) C__law_same (hr.mono (by decide)) pass0 (pa_cons (pe_cal (E := E0) C__law_ask (hr.mono (by decide)) pass0 (pa_cons (pe_op op_cat (pv 7) (pe_lst pa_nil)) (pa_cons (pe_cal (E := E0) C__law_copy (hr.mono (by decide)) pass0 (pa_cons (pv 6) pa_nil)) pa_nil))) (pa_cons (pe_lst (pa_cons pe_str (pa_cons pe_str (pa_cons (pe_tup (pa_cons pe_str pa_nil)) pa_nil)))) pa_nil))))) (pss_one (ps_ret pe_bl)) pss_nil)
      (pss_cons (ps_if (pt_cmpR op_notN (pv 5) pe_non (nomark _)) (pss_one (ps_ret (pe_cal (E := E0) C__law_same (hr.mono (by decide)) pass0 (pa_cons (pe_cal (E := E0) C__law_ask (hr.mono (by decide)) pass0 (pa_cons (pe_op op_cat (pv 7) (pe_lst pa_nil)) (pa_cons (pe_op op_cat (pv 2) (pe_lst pa_nil)) pa_nil))) (pa_cons (pv 5) pa_nil))))) pss_nil)
      (pss_cons (ps_setLc (i := 8) (own := [("literal", 9)]) (g := gName 9) rfl sc_law_refusals.nd rfl rfl (sw_true rfl rfl rfl (by decide +kernel)) (piT (K := K) (pe_ix (ixL (K := K)) (pv 7) pe_int (fun _ _ => rfl))) (blkOk_by (N := N_law_refusals) (sc := defScope (top 57)) (by decide +kernel)) (fun _ _ _ _ _ => (pg_name (i := 9) sc_law_refusals.nd rfl (Or.inl rfl))) (fun _ _ _ _ _ => pts_nil) (fun _ _ _ _ _ => (pe_cal (E := E0) C__law_denied (hr.mono (by decide)) pass0 (pa_cons (pv 9) pa_nil))))
      (pss_cons (ps_set (i := 10) sc_law_refusals.nd rfl (Or.inl rfl) (pe_bm PySem.F.plainAttrs_list PySem.F.slot_list_pop PySem.F.type_list_pop mt_popAt (pv 8) (pa_cons (pe_cal (E := E0) C__law_next (hr.mono (by decide)) pass0 (pa_cons (pv 0) (pa_cons pe_int pa_nil))) pa_nil)))
      (pss_one (ps_ret (pe_cal (E := E0) C__law_same (hr.mono (by decide)) pass0 (pa_cons (pe_cal (E := E0) C__law_ask (hr.mono (by decide)) pass0 (pa_cons (pe_op op_cat (pv 7) (pe_lst pa_nil)) (pa_cons (pv 8) pa_nil))) (pa_cons (pe_lst (pa_cons pe_str (pa_cons (pe_tup (pa_cons pe_str (pa_cons (pe_lst (pa_cons (pe_tup (pa_cons (pe_cal (E := E0) C__law_denied (hr.mono (by decide)) pass0 (pa_cons (pv 10) pa_nil)) (pa_cons pe_int pa_nil))) pa_nil)) pa_nil))) pa_nil))) pa_nil)))))))))))))), ?_⟩
  have hrow : ∀ r ∈ rs, rowD (.tuple r) = true := fun r hr => (hrs r hr).1
  have lsfit : Fit 5 (.list ls) := fit_of _ _ (fit_le (n := 3) (by omega) (lst_fit (by omega) fun d hd => lit_fit (hls.1 d hd)))
  have lsz : ∀ x, PyData.list ls = .list x → x.length ≤ 2000 := fun x h => by injection h with h; rw [← h]; omega
  have nbv : nodes (rsd "BadValue" [.str (Str.ofString "literals")]) ≤ 100000 := by simp [rsd, nodes, nodesL]
  refine ⟨_, rfl, _, rfl, _, rfl, s, L, a, ra, us, xs, ds, rs, G, rfl, st, eG, gs, hus, hds, hat, by omega, hra, hxs, hrs, hrl, fun p v1 v2 bd due G2 H2 g hp hbd hdue hask hfit hlen hnod => ?_⟩
  refine ⟨p, [v1, v2], rfl, SqL.of (g.ge _ _ hp), rfl, _, _, rfl, _, _, rfl, rfl, ?_⟩
  refine ⟨_, rfl, _, rfl, _, rfl, s, L, a, la, us, ys, ds, ls, G2, rfl, g.st, g.ge, g.gs, g.gg _ _ hus, ex_dta g.gg hds, hat, by omega, g.gg _ _ hla, ex_dta g.gg hys, hls, hll, fun wv wd G3 H3 b3 hwd hwb hwfit hwl => ?_⟩
  have g3 := g.trans b3
  have bdfit : Fit 5 bd := fit_of _ _ hfit
  have wfit : Fit 5 wd := fit_of _ _ (fit_le (n := 3) (by omega) hwfit)
  have bdz : ∀ x, bd = .list x → x.length ≤ 100000 := fun x h => by have := hlen x h; omega
  have wz : ∀ x, wd = .list x → x.length ≤ 2000 := fun x h => by have := hwl x h; omega
  have hlsd : Dt G (.ref la) (.list ls) := .lst hla hys
  have duebv : ∀ {Gx Hx : Hp} {t1 t2 : Addr}, Ga s L G H Gx Hx → Hx t1 = none → upd Hx t1 (.tup [.str "literals"]) t2 = none → ∃ Gy, Ga s L G H Gy (upd (upd Hx t1 (.tup [.str "literals"])) t2 (.lst [.str "raised", .str "BadValue", .ref t1])) ∧ Ex Gx Gy ∧ Dt Gy (.ref t2) (rsd "BadValue" [.str (Str.ofString "literals")]) ∧ Ex Hx (upd (upd Hx t1 (.tup [.str "literals"])) t2 (.lst [.str "raised", .str "BadValue", .ref t1])) := fun {Gx Hx t1 t2} g h1 h2 => by
    obtain ⟨c1, x1, y1⟩ := ga_tup g h1 (xs := [.str "literals"]) (ds := [.str (Str.ofString "literals")]) (.cons (.str _) .nil)
    obtain ⟨c2, x2, y2⟩ := ga_lst c1 h2 (xs := [.str "raised", .str "BadValue", .ref t1]) (ds := [.str (Str.ofString "raised"), .str (Str.ofString "BadValue"), .tuple [.str (Str.ofString "literals")]]) (.cons (.str _) (.cons (.str _) (.cons y1 .nil)))
    exact ⟨_, c2, x1.trans x2, y2, (Evl.Ex.new h1).trans (Evl.Ex.new h2)⟩
  refine ⟨fun σ' H' => ∃ G', σ' = [some (.ref s), some (.ref ra), some (.ref la), some (.ref a), some v1, some v2, some wv, none, none, none, none] ∧ Ga s L G H G' H' ∧ Ex G3 G', ?_, ?_⟩
  · -- wrong rows
    refine ⟨_, rfl, v1, bd, G3, rfl, g3.ge, ex_dt b3.gg _ _ hbd, bdfit, fun c1 G4 H4 s4 hc1 => ?_⟩
    have g4 := g3.stp s4
    refine ⟨_, rfl, .ref la, .list ls, G4, rfl, g4.ge, ex_dt g4.gg _ _ hlsd, lsfit, fun c2 G5 H5 s5 hc2 => ?_⟩
    have g5 := g4.stp s5
    refine ⟨c1, c2, bd, .list ls, rfl, ex_dt (s5.gg.trans g5.ge) _ _ hc1, ex_dt g5.ge _ _ hc2, bdz, lsz, fun v6 H6 e6 hv6 _ => ?_⟩
    rw [hask] at hv6
    have e35 := s4.gg.trans s5.gg
    have g6 := g5.ex e6
    refine ⟨_, rfl, v6, v2, due, rfl, hv6, ex_dt ((b3.gg.trans e35).trans g6.ge) _ _ hdue, by omega, fun H7 e7 => ⟨_, rfl, ?_⟩⟩
    refine ite2 (fun h => absurd h (by decide)) (fun _ => ?_)
    have g7 := g6.ex e7
    refine ⟨_, rfl, v1, bd, G5, rfl, g7.ge, ex_dt (b3.gg.trans e35) _ _ hbd, bdfit, fun c8 G8 H8 s8 hc8 => ?_⟩
    have g8 := g7.stp s8
    refine ⟨_, rfl, wv, wd, G8, rfl, g8.ge, ex_dt (e35.trans s8.gg) _ _ hwd, wfit, fun c9 G9 H9 s9 hc9 => ?_⟩
    have g9 := g8.stp s9
    refine ⟨c8, c9, bd, wd, rfl, ex_dt (s9.gg.trans g9.ge) _ _ hc8, ex_dt g9.ge _ _ hc9, bdz, wz, fun v10 H10 e10 hv10 _ => ?_⟩
    rw [hask] at hv10
    have g10 := g9.ex e10
    have e39 := e35.trans (s8.gg.trans s9.gg)
    refine ⟨_, rfl, v10, v2, due, rfl, hv10, ex_dt ((b3.gg.trans e39).trans g10.ge) _ _ hdue, by omega, fun H11 e11 => ⟨_, rfl, ?_⟩⟩
    exact ite2 (fun h => absurd h (by decide)) (fun _ => ⟨G9, rfl, g10.ex e11, e39⟩)
  rintro σ' H' ⟨G', rfl, g12, e12⟩
  -- right rows, wrong literals
  have hra12 := g12.gg _ _ hra
  have hxs12 := ex_dta g12.gg hxs
  refine ⟨_, rfl, ra, xs, rfl, .inl (SqL.of (g12.ge _ _ hra12)), fun p13 hp13 => ?_⟩
  have g13 := g12.new hp13 (o := .lst xs)
  have e13 : Ex G' _ := g12.fr hp13 (o := .lst xs)
  refine ⟨_, rfl, wv, wd, _, rfl, g13.ge, ex_dt (e12.trans e13) _ _ hwd, wfit, fun c14 G14 H14 s14 hc14 => ?_⟩
  have g14 := g13.stp s14
  refine ⟨.ref p13, c14, .list (rs.map PyData.tuple), wd, rfl, .lst (g14.ge _ _ (s14.gg _ _ upd_same)) (ex_dta ((e13.trans s14.gg).trans g14.ge) hxs12), ex_dt g14.ge _ _ hc14, (fun x h => by injection h with h; rw [← h, List.length_map]; omega), wz, fun v15 H15 e15 hv15 _ => ?_⟩
  rw [ask_badlits hrow hwb] at hv15
  have g15 := g14.ex e15
  refine ⟨szl 1 (by omega), fun t1 ht1 => ⟨szl 3 (by omega), fun t2 ht2 => ?_⟩⟩
  obtain ⟨G16, g16, e16, hd16, x16⟩ := duebv g15 ht1 ht2
  have hv16 := ex_dt x16 _ _ hv15
  refine ⟨v15, .ref t2, _, rfl, hv16, ex_dt g16.ge _ _ hd16, nbv, fun H17 e17 => ⟨_, rfl, ?_⟩⟩
  refine ite2 (fun h => absurd h (by decide)) (fun _ => ?_)
  have g17 := g16.ex e17
  have e1217 := e12.trans (e13.trans (s14.gg.trans e16))
  -- the limits
  refine ⟨_, rfl, _, rfl, s, L, a, us, ds, G16, rfl, g17.st, g17.ge, g17.gs, g17.gg _ _ hus, ex_dta g17.gg hds, hat, hn, fun p18 q18 w18 zs rws due2 G18 H18 b18 hp18 hq18 hzs hrd hrwl hdue2 hcase => ?_⟩
  have g18 := g17.trans b18
  have zl := dta_len hzs
  rw [List.length_map] at zl
  refine ⟨p18, [.ref q18, w18], rfl, SqL.of (g18.ge _ _ hp18), rfl, _, _, rfl, _, _, rfl, rfl, ?_⟩
  have z401 : ∀ x, PyData.list (rws.map PyData.tuple) = .list x → x.length ≤ 100000 := fun x h => by injection h with h; rw [← h, List.length_map]; omega
  refine ⟨_, rfl, szl 0 (by omega), fun p19 hp19 => ?_⟩
  have g19 := g18.new hp19 (o := .lst [])
  have e19 : Ex G18 _ := g18.fr hp19 (o := .lst [])
  refine ⟨q18, p19, zs, [], rfl, rfl, g19.ge _ _ (e19 _ _ hq18), upd_same, szl _ (by simp; omega), fun p20 hp20 => ?_⟩
  have g20 := g19.new hp20 (o := .lst (zs ++ []))
  have e20 : Ex _ _ := g19.fr hp20 (o := .lst (zs ++ []))
  refine ⟨_, rfl, wv, wd, _, rfl, g20.ge, ex_dt (e1217.trans (b18.gg.trans (e19.trans e20))) _ _ hwd, wfit, fun c21 G21 H21 s21 hc21 => ?_⟩
  have g21 := g20.stp s21
  have h20 : G21 p20 = some (.lst zs) := s21.gg _ _ (by rw [List.append_nil]; exact upd_same)
  have e1821 := (e19.trans e20).trans s21.gg
  refine ⟨.ref p20, c21, .list (rws.map PyData.tuple), wd, rfl, .lst (g21.ge _ _ h20) (ex_dta (e1821.trans g21.ge) hzs), ex_dt g21.ge _ _ hc21, z401, wz, fun v22 H22 e22 hv22 _ => ?_⟩
  rw [ask_badlits hrd hwb] at hv22
  have g22 := g21.ex e22
  refine ⟨szl 1 (by omega), fun t3 ht3 => ⟨szl 3 (by omega), fun t4 ht4 => ?_⟩⟩
  obtain ⟨G23, g23, e23, hd23, x23⟩ := duebv g22 ht3 ht4
  have hv23 := ex_dt x23 _ _ hv22
  refine ⟨v22, .ref t4, _, rfl, hv23, ex_dt g23.ge _ _ hd23, nbv, fun H24 e24 => ⟨_, rfl, ?_⟩⟩
  refine ite2 (fun h => absurd h (by decide)) (fun _ => ?_)
  have g24 := g23.ex e24
  have e1823 := e1821.trans e23
  have hq24 := e1823 _ _ hq18
  have hzs24 := ex_dta e1823 hzs
  have hdue24 := ex_dt e1823 _ _ hdue2
  refine ⟨_, rfl, rfl, _, rfl, ?_⟩
  rcases hcase with ⟨rfl, r, rfl, hr5, hrn⟩ | ⟨hdn, hdn2, hask2⟩
  · have : w18 = .non := by cases hdue2; rfl
    subst this
    refine ite2 (fun h => absurd h (by decide)) (fun _ => ?_)
    have hr0 : rowD (.tuple r) = true := hrd r (by simp)
    have hlr := row_lits hr0
    obtain ⟨z0, hz0, hd0⟩ := dta_get' hzs24 (i := 0) (d := .tuple r) (by simp)
    obtain ⟨rt, xr, rfl, hrt, hxr⟩ := dt_tup hd0
    have xrl := dta_len hxr
    refine ⟨_, rfl, q18, zs, 0, _, rfl, rfl, SqL.of (g24.ge _ _ hq24), at_nat (i := 0) hz0, rt, rfl, ⟨xr, SqT.of (g24.ge _ _ hrt)⟩, fun D hD => ?_⟩
    have gD : G23 D = none := Evl.fresh_back g24.ge hD
    refine lcGa walk_tup g24 (fun G' H' a e => SqT.of (a.ge _ _ (e _ _ hrt))) (by omega) (fun i v G => Dt G v (negD (r.getD i .none))) (fun i v G G' e h => ex_dt e _ _ h) (fun i => [some (.ref s), some (.ref ra), some (.ref la), some (.ref a), some v1, some .non, some wv, some (.ref q18), none, some (xr.getD i .non), none])
      (fun i x G' H' H'' hi a e yy Q q => ?_) (fun _ _ => rfl) (fun i G' H' hi a e Q q => ?_) (fun i x G' H' H'' hi a yy => yy.1) hD (fun dy G25 H25 g25 e25 hD25 hdl hdr => ?_)
    · obtain ⟨rfl, hx⟩ := yy
      have : xr.getD i .non = x := by rw [List.getD_eq_getElem?_getD, hx]; rfl
      have q := q rfl
      rw [this] at q
      exact q
    · have hx : xr[i]? = some (xr.getD i .non) := by rw [List.getD_eq_getElem?_getD, List.getElem?_eq_getElem hi]; rfl
      obtain ⟨di, hdi, hti⟩ := dta_get hxr hx
      have hgd : r.getD i .none = di := by rw [List.getD_eq_getElem?_getD, hdi]; rfl
      rw [hgd] at q
      obtain ⟨rl, x, ad, b, e1, hr1, hxa, hat', rfl⟩ := lit_at (ex_dt e _ _ hti) (hlr di (List.mem_of_getElem? hdi))
      have ga := Ga.refl a.ge a.st a.gs
      refine ⟨_, rfl, rl, x, b, congrArg (fun z => [z]) e1, a.ge _ _ hr1, fun p hp => ?_⟩
      exact q _ _ _ (ga.new hp) (dtl upd_same (ex_dt (ga.fr hp) _ _ hxa))
    have hdd := r_dta (f := fun i => negD (r.getD i .none)) hdl hdr
    have hnr : (List.range xr.length).map (fun i => negD (r.getD i .none)) = r.map negD := by
      rw [xrl]
      exact range_map r .none negD
    rw [hnr] at hdd
    -- one of them out
    have nds := g24.no hD
    refine ⟨_, rfl, .inl ⟨rfl, _, SqL.of (g25.ge _ _ hD25)⟩, _, rfl, s, L, 5, rfl, g25.st, by decide, by decide, fun kd H26 k0 k1 kp26 st26 => ?_⟩
    have g26 := g25.next kp26 st26
    obtain ⟨k, rfl⟩ : ∃ k : Nat, kd = (k : Int) := ⟨kd.toNat, by omega⟩
    have hkl : k < dy.length := by omega
    have hkr : k < r.length := by omega
    have hD26 := g26.ge _ _ hD25
    refine ⟨D, dy, (k : Int), k, (dy[k]'hkl), rfl, rfl, hD26, by omega, by omega, (ixN_seq (n := dy.length) (i := (k : Int)) (j := k) (by unfold ixN; rw [if_pos (by omega), if_pos (by omega)]; simp)).1, List.getElem?_eq_getElem hkl, ?_⟩
    have hyk : Dt H26 (dy[k]'hkl) (negD (r[k]'hkr)) := ex_dt g26.ge _ _ (by
      obtain ⟨z, hz, hzd⟩ := dta_get' hdd (i := k) (d := negD (r[k]'hkr)) (by rw [List.getElem?_map, List.getElem?_eq_getElem hkr]; rfl)
      rw [List.getElem?_eq_getElem hkl] at hz
      cases hz
      exact hzd)
    have tp := tps_mut (o := .lst (dy.eraseIdx k)) hD26
    have hlk := hlr _ (List.getElem_mem hkr)
    have hnk := lit_key (neg_lit hlk)
    have hyk2 := dt_ts tp _ _ hnk.1 hyk
    have hkeys : keysD (r.map negD) = true := keysD_iff.mpr fun d hd => by
      obtain ⟨x, hx, rfl⟩ := List.mem_map.mp hd
      exact (lit_key (neg_lit (hlr x hx))).1
    have hdd2 := dta_erase k (dta_ts tp hkeys (ex_dta g26.ge hdd))
    have hD27 : upd H26 D (.lst (dy.eraseIdx k)) D = some (.lst (dy.eraseIdx k)) := upd_same
    have e2327 : Ex G23 (upd H26 D (.lst (dy.eraseIdx k))) := ex_mut (e25.trans g26.ge) gD
    generalize upd H26 D (.lst (dy.eraseIdx k)) = H27 at hyk2 hdd2 hD27 e2327
    obtain ⟨rn, xn, an, bn, hyn, hrn', hxn, han, hln⟩ := lit_at hyk2 (neg_lit hlk)
    have hrk : (r[k]'hkr) = .tuple [an, .bool (!bn)] := by rw [← neg_neg hlk, hln]; rfl
    refine ⟨_, rfl, szl 0 (by omega), fun p28 hp28 => ?_⟩
    have e28 := Evl.Ex.new hp28 (o := .lst [])
    have hq28 := e28 _ _ (e2327 _ _ hq24)
    have hn28 : upd H27 p28 (.lst []) p28 = some (.lst []) := upd_same
    have e2328 := e2327.trans e28
    refine ⟨q18, p28, zs, [], rfl, rfl, hq28, hn28, szl _ (by simp; omega), fun p29 hp29 => ?_⟩
    have e29 := Evl.Ex.new hp29 (o := .lst (zs ++ []))
    have e2729 := e28.trans e29
    have hp29' : upd (upd H27 p28 (.lst [])) p29 (.lst (zs ++ [])) p29 = some (.lst zs) := by rw [List.append_nil]; exact upd_same
    have e2329 := e2328.trans e29
    have hD29 := e2729 _ _ hD27
    have hdd29 := ex_dta e2729 hdd2
    have hxn29 := ex_dt e2729 _ _ hxn
    have hrn29 := e2729 _ _ hrn'
    generalize upd (upd H27 p28 (.lst [])) p29 (.lst (zs ++ [])) = H29 at hp29' e2329 hD29 hdd29 hxn29 hrn29
    refine ⟨_, rfl, .ref p29, .ref D, .list ((List.replicate 400 r).map PyData.tuple), .list ((r.map negD).eraseIdx k), rfl, .lst hp29' (ex_dta e2329 hzs24), .lst hD29 hdd29, z401, (fun x h => by
      injection h with h
      rw [← h]
      have := (List.eraseIdx_sublist (r.map negD) k).length_le
      rw [List.length_map] at this
      omega), fun v30 H30 e30 hv30 _ => ?_⟩
    have hr400 : ∀ x ∈ List.replicate 400 r, rowD (.tuple x) = true := fun x hx => by rw [(List.mem_replicate.mp hx).2]; exact hr0
    have hsum : ((List.replicate 400 r).map List.length).sum ≤ 2000 := Nat.le_trans (sum_le (k := 5) fun x hx => by rw [(List.mem_replicate.mp hx).2]; omega) (by simp)
    have ht := told_nodes (rows := List.replicate 400 r) (lits := (r.map negD).eraseIdx k) hr400 (by simp)
    rw [ask_told hr400 (neg_lits hlr hrn) (by simp) hsum] at hv30
    rw [res_great (by omega) hlr hrn hkr] at hv30 ht
    refine ⟨_, rfl, rn, xn, bn, congrArg (fun z => [z]) hyn, e30 _ _ hrn29, fun p31 hp31 => ?_⟩
    have hxn30 := ex_dt e30 _ _ hxn29
    have e31 := Evl.Ex.new hp31 (o := .tup [xn, .bl (!bn)])
    have hl31 : Dt (upd H30 p31 (.tup [xn, .bl (!bn)])) (.ref p31) (r[k]'hkr) := by rw [hrk]; exact dtl upd_same (ex_dt e31 _ _ hxn30)
    refine ⟨szl 2 (by omega), fun t5 ht5 => ⟨szl 1 (by omega), fun t6 ht6 => ⟨szl 2 (by omega), fun t7 ht7 => ⟨szl 2 (by omega), fun t8 ht8 => ?_⟩⟩⟩⟩
    have e5 := Evl.Ex.new ht5 (o := .tup [.ref p31, .int 0])
    have e6 := Evl.Ex.new ht6 (o := .lst [.ref t5])
    have e7 := Evl.Ex.new ht7 (o := .tup [.str "stands", .ref t6])
    have e8 := Evl.Ex.new ht8 (o := .lst [.str "told", .ref t7])
    have e58 := e5.trans (e6.trans (e7.trans e8))
    refine ⟨v30, .ref t8, _, rfl, ex_dt (e31.trans e58) _ _ hv30, .lst upd_same (.cons (.str _) (.cons (.tup (e8 _ _ upd_same) (.cons (.str _) (.cons (.lst ((e7.trans e8) _ _ upd_same) (.cons (.tup ((e6.trans (e7.trans e8)) _ _ upd_same) (.cons (ex_dt e58 _ _ hl31) (.cons (.int _) .nil))) .nil)) .nil))) .nil)), ht, fun H31 e31 => q _⟩
  · have : w18 ≠ .non := fun z => by rw [z] at hdue2; cases hdue2; exact hdn rfl
    refine ite2 (fun _ => ?_) (fun h => absurd (by rw [decide_eq_false this]; rfl) h)
    refine ⟨_, rfl, szl 0 (by omega), fun p25 hp25 => ?_⟩
    have g25 := g24.new hp25 (o := .lst [])
    have e25 : Ex G23 _ := g24.fr hp25 (o := .lst [])
    refine ⟨q18, p25, zs, [], rfl, rfl, g25.ge _ _ (e25 _ _ hq24), upd_same, szl _ (by simp; omega), fun p26 hp26 => ?_⟩
    have g26 := g25.new hp26 (o := .lst (zs ++ []))
    have e26 : Ex _ _ := g25.fr hp26 (o := .lst (zs ++ []))
    refine ⟨_, rfl, szl 0 (by omega), fun p27 hp27 => ?_⟩
    have g27 := g26.new hp27 (o := .lst [])
    have e27 : Ex _ _ := g26.fr hp27 (o := .lst [])
    have yl := dta_len hys
    have hzz : DtAll G23 (zs ++ []) (rws.map PyData.tuple) := by rw [List.append_nil]; exact hzs24
    have hyy : DtAll G (ys ++ []) ls := by rw [List.append_nil]; exact hys
    refine ⟨la, p27, ys, [], rfl, rfl, g27.ge _ _ (g27.gg _ _ hla), upd_same, szl _ (by simp; omega), fun p28 hp28 => ?_⟩
    have g28 := g27.new hp28 (o := .lst (ys ++ []))
    have e28 : Ex _ _ := g27.fr hp28 (o := .lst (ys ++ []))
    have e2328 := (e25.trans e26).trans (e27.trans e28)
    refine ⟨.ref p26, .ref p28, .list (rws.map PyData.tuple), .list ls, rfl, .lst (g28.ge _ _ ((e27.trans e28) _ _ upd_same)) (ex_dta (e2328.trans g28.ge) hzz), .lst upd_same (ex_dta (g28.gg.trans g28.ge) hyy), z401, lsz, fun v29 H29 e29 hv29 _ => ?_⟩
    rw [hask2 ls hls.lits] at hv29
    refine ⟨_, rfl, v29, w18, due2, rfl, hv29, ex_dt (e2328.trans (g28.ge.trans e29)) _ _ hdue24, by omega, fun H30 e30 => q _⟩
end
end K21
namespace K21
open PySem PySem.Spec PyProof.Rows L2 Hx Hd
open Evl (pss_cut tCut ex_l ex_t)
open M21
theorem res_shape {rows : Rws} {lits : List PyData} {w : Str} {ds drest : List PyData} (h : ∀ r ∈ rows, rowD (.tuple r) = true) (e : resD rows lits = .tuple (.str w :: .list ds :: drest)) : ds.length ≤ rows.length + 1 := by
  have h2 := (go_lits (fun r hr x hx => row_lits (h r hr) x hx) (rows.length + 1) lits).2
  have e1 : stepsOf rows lits = goSteps rows (rows.length + 1) lits := rfl
  rw [← e1] at h2
  unfold resD at e
  split at e
  · injection e with e
    injection e with _ e
    injection e with e _
    injection e with e
    rw [← e, List.length_map]; exact h2
  · injection e with e
    injection e with _ e
    injection e with e _
    injection e with e
    rw [← e, List.length_map]; exact h2
theorem row_nodes : ∀ {r : List PyData}, (∀ x ∈ r, litD x = true) → nodesL r ≤ 7 * r.length
  | [], _ => by simp [nodesL]
  | x :: r, h => by
    have h1 := lit_nodes (h x (List.mem_cons_self ..))
    have h2 := row_nodes (r := r) fun y hy => h y (List.mem_cons_of_mem _ hy)
    rw [nodesL, List.length_cons]
    omega
theorem rows_nodesL : ∀ {rs : Rws}, RowsN rs → nodesL (rs.map PyData.tuple) ≤ 43 * rs.length
  | [], _ => by simp [nodesL]
  | r :: rs, h => by
    have h0 := h r (List.mem_cons_self ..)
    have h1 := row_nodes (row_lits h0.1)
    have h2 := rows_nodesL (rs := rs) fun y hy => h y (List.mem_cons_of_mem _ hy)
    have h3 := h0.2
    rw [List.map_cons, nodesL, List.length_cons]
    have : nodes (.tuple r) = nodesL r + 1 := by simp [nodes]
    omega
theorem rows_nodes {rs : Rws} (h : RowsN rs) (hl : rs.length ≤ 1000) : nodes (.list (rs.map PyData.tuple)) ≤ 100000 := by
  have := rows_nodesL h
  simp only [nodes]
  omega
theorem dta_mapi {G : Hp} {v : Nat → V} {d : Nat → PyData} : ∀ (l : List Nat), (∀ i ∈ l, Dt G (v i) (d i)) → DtAll G (l.map v) (l.map d)
  | [], _ => .nil
  | i :: l, h => .cons (h i (List.mem_cons_self ..)) (dta_mapi l fun j hj => h j (List.mem_cons_of_mem _ hj))
/-- those that are not among them, nor denied among them -/
def newB (ls : List PyData) (d : PyData) : Bool := !(ls.any fun e => PyData.eqv e d) && !(ls.any fun e => PyData.eqv e (negD d))
theorem newB_iff {ls : List PyData} {d : PyData} (hl : ∀ x ∈ ls, litD x = true) (hd : litD d = true) : newB ls d = true ↔ d ∉ ls ∧ negD d ∉ ls := by
  unfold newB
  rw [Bool.and_eq_true, Bool.not_eq_true', Bool.not_eq_true', Bool.eq_false_iff, Bool.eq_false_iff, ne_eq, ne_eq, any_eqv hl hd, any_eqv hl (neg_lit hd)]
theorem lits_more {ls l2 : List PyData} (h1 : LitsN ls) (h2 : LitsN l2) : LitsN (ls ++ l2.filter (newB ls)) := by
  refine ⟨fun l hl => ?_, ?_⟩
  · rcases List.mem_append.mp hl with hl | hl
    · exact h1.1 l hl
    · exact h2.1 l (List.mem_filter.mp hl).1
  · rw [List.map_append, List.nodup_append]
    refine ⟨h1.2, h2.2.sublist (List.filter_sublist.map _), fun k hk k' hk' e => ?_⟩
    subst e
    obtain ⟨x, hx, rfl⟩ := List.mem_map.mp hk
    obtain ⟨y, hy, e⟩ := List.mem_map.mp hk'
    obtain ⟨hy, hn⟩ := List.mem_filter.mp hy
    have ly := h2.1 y hy
    obtain ⟨n1, n2⟩ := (newB_iff h1.1 ly).mp hn
    have lx := h1.1 x hx
    obtain ⟨a, b, rfl, ha⟩ := lit_shape lx
    obtain ⟨a', b', rfl, ha'⟩ := lit_shape ly
    have := nk_atom ha' ha e
    subst this
    by_cases hb : b = b'
    · subst hb; exact n1 hx
    · have : b = !b' := by cases b <;> cases b' <;> simp at hb ⊢
      rw [this] at hx
      exact n2 hx
section
variable {P : Program} {w : World} {K : PySem.W.Frag} {mg : Str → Option Value} {base : Heap}
def spLaw (K : PySem.W.Frag) : Sp := fun vs H Q _ => ∃ (a : Addr) (ns : List Int), vs = [.ref a] ∧ SqL K H a (ns.map V.int) ∧ ns.length ≤ 63 ∧ ∀ H', Q (.bl true) H'
theorem mkFn {x : Str} {st : Stmt} {N ps : List Str} {k : Nat} {sp : Sp} {fd : FuncData} (F : FunD K x x (defArgs st) (defBody st) (defScope st) [] [] (He.ga K x) fd) (sc : FnScope N ps (defScope st))
    (len : ∀ vs H Q E, sp vs H Q E → vs.length = ps.length)
    (body : ∀ (cdv : Value) (A : Around) (outer : List Env) (s : Shared) (H : Hp) (vs : List V) (Q : VK) (E : XK), Room k (A.deeper (envOfC x (defScope st) s.heap.objs.size (He.ga K x) cdv)) → sp vs H Q E →
      ∃ t, PSs (cxOf CX0 P w K mg base N x (defScope st) (He.ga K x) cdv A outer s H E).nox (defBody st) t ∧ t { nx := fun _ H' => Q .non H', rt := Q } (start N vs) H) : FnOk P w K mg base CX0 (k + 1) (He.ga K x) fd ps sp :=
  F.ok sc len fun cdv A outer s H vs Q E hr h => by
    obtain ⟨t, a, b⟩ := body cdv A outer s H vs Q E hr h
    exact ⟨t, a.nox, b⟩
abbrev Nlaw : List Str := ["script", "stream", "atoms", "rows", "literals", "turn", "due", "given", "told", "one"]
theorem sclaw : FnScope Nlaw ["script"] (defScope (top 58)) := ⟨rfl, rfl, rfl, by decide +kernel, rfl, by decide +kernel, by decide +kernel⟩
theorem ok_law (T : Txt K mg) {fd : FuncData} (F : FunD K "law" "law" (defArgs (top 58)) (defBody (top 58)) (defScope (top 58)) [] [] (He.ga K "law") fd)
    (C__law_stream : Cal P w K mg base CX0 1 "_law_stream" ["script"] (spStream K)) (C__law_next : Cal P w K mg base CX0 1 "_law_next" ["stream", "many"] spNext) (C__law_pick : Cal P w K mg base CX0 2 "_law_pick" ["stream", "rows"] (spPick K)) (C__law_from : Cal P w K mg base CX0 2 "_law_from" ["stream", "low", "high"] spFrom)
    (C__law_shuffled : Cal P w K mg base CX0 2 "_law_shuffled" ["stream", "rows"] (spShuf K)) (C__law_atoms : Cal P w K mg base CX0 4 "_law_atoms" ["stream", "many"] spAtoms) (C__law_clauses : Cal P w K mg base CX0 4 "_law_clauses" ["stream", "atoms", "upto"] spClauses) (C__law_some : Cal P w K mg base CX0 3 "_law_some" ["stream", "atoms", "upto"] spSome)
    (C__law_steps : Cal P w K mg base CX0 3 "_law_steps" ["rows", "literals"] spSteps) (C__law_ask : Cal P w K mg base CX0 7 "_law_ask" ["rows", "literals"] spAsk) (C__law_same : Cal P w K mg base CX0 1 "_law_same" ["actual", "due"] (spSame K)) (C__law_denied : Cal P w K mg base CX0 1 "_law_denied" ["literal"] spDen)
    (C__law_chains : Cal P w K mg base CX0 8 "_law_chains" ["stream"] spChains) (C__law_refusals : Cal P w K mg base CX0 8 "_law_refusals" ["stream", "rows", "literals", "atoms"] spRefus) : FnOk P w K mg base CX0 9 (He.ga K "law") fd ["script"] (spLaw K) := by
  refine mkFn F sclaw (fun vs H Q E h => ?_) fun cdv A outer s0 H vs Q E hr h => ?_
  · obtain ⟨a, _, rfl, _⟩ := h; rfl
  obtain ⟨sc, sn, rfl, hsc, hsl, q⟩ := h
  refine ⟨_, (pss_cons (ps_set (i := 1) sclaw.nd rfl (Or.inl rfl) (pe_cal (E := E0) C__law_stream (hr.mono (by decide)) pass0 (pa_cons (pv 0) pa_nil)))
      (pss_cons (ps_set (i := 2) sclaw.nd rfl (Or.inl rfl) (pe_cal (E := E0) C__law_atoms (hr.mono (by decide)) pass0 (pa_cons (pv 1) (pa_cons (pe_cal (E := E0) C__law_from (hr.mono (by decide)) pass0 (pa_cons (pv 1) (pa_cons pe_int (pa_cons pe_int pa_nil)))) pa_nil))))
      (pss_cons (ps_set (i := 3) sclaw.nd rfl (Or.inl rfl) (pe_cal (E := E0) C__law_clauses (hr.mono (by decide)) pass0 (pa_cons (pv 1) (pa_cons (pv 2) (pa_cons (pe_cal (E := E0) C__law_pick (hr.mono (by decide)) pass0 (pa_cons (pv 1) (pa_cons (pe_tup (pa_cons pe_int (pa_cons pe_int (pa_cons pe_int (pa_cons pe_int pa_nil))))) pa_nil))) pa_nil)))))
      (pss_cons (ps_set (i := 4) sclaw.nd rfl (Or.inr rfl) (pe_cal (E := E0) C__law_some (hr.mono (by decide)) pass0 (pa_cons (pv 1) (pa_cons (pv 2) (pa_cons pe_int pa_nil)))))
      (pss_cons (ps_for PassesOwn.never rfl (pi_range1 (by rfl) T.n_range (pa_cons pe_int pa_nil)) (pg_name (i := 5) sclaw.nd rfl (Or.inl rfl)) (pss_cons (ps_set (i := 6) sclaw.nd rfl (Or.inl rfl) (pe_cal (E := E0) C__law_steps (hr.mono (by decide)) pass0 (pa_cons (pv 3) (pa_cons (pv 4) pa_nil))))
      (pss_cons (ps_set (i := 7) sclaw.nd rfl (Or.inl rfl) (pe_callTy (listOf (K := K)) (by rfl) T.n_list (by decide +kernel) (pa_cons (pv 3) pa_nil)))
      (pss_cons (ps_set (i := 8) sclaw.nd rfl (Or.inl rfl) (pe_cal (E := E0) C__law_ask (hr.mono (by decide)) pass0 (pa_cons (pv 7) (pa_cons (pe_op op_cat (pv 4) (pe_lst pa_nil)) pa_nil))))
      (pss_cut (ps_if (PW.pt (pw_or (pt_not (pt_val (pe_cal (E := E0) C__law_same (hr.mono (by decide)) pass0 (pa_cons (pv 8) (pa_cons (pe_lst (pa_cons pe_str (pa_cons (pv 6) pa_nil))) pa_nil))))) (pw_or1 (pt_not (pt_val (pe_cal (E := E0) C__law_same (hr.mono (by decide)) pass0 (pa_cons (pv 7) (pa_cons (pv 3) pa_nil)))))))) (pss_one (ps_ret pe_bl)) pss_nil)
      (pss_cons (ps_expr (pe_bm PySem.F.plainAttrs_list PySem.F.slot_list_append PySem.F.type_list_append mt_append (pe_ix (ixT (K := K)) (pe_ix (ixL (K := K)) (pv 8) pe_int (fun _ _ => rfl)) pe_int (fun _ _ => rfl)) (pa_cons (pe_tup (pa_cons (pv 4) (pa_cons pe_int pa_nil))) pa_nil)))
      (pss_cut (ps_if (pt_cmpR op_gt (pe_callB (lenL (K := K)) (by rfl) T.n_len PySem.boot_len (pa_cons (pv 7) pa_nil)) pe_int (nomark _)) (pss_one (ps_expr (pe_bm0 PySem.F.plainAttrs_list PySem.F.slot_list_pop PySem.F.type_list_pop mt_pop (pv 7)))) pss_nil)
      (pss_cons (ps_if (pt_not (pt_val (pe_cal (E := E0) C__law_same (hr.mono (by decide)) pass0 (pa_cons (pe_cal (E := E0) C__law_ask (hr.mono (by decide)) pass0 (pa_cons (pe_callTy (listOf (K := K)) (by rfl) T.n_list (by decide +kernel) (pa_cons (pv 3) pa_nil)) (pa_cons (pe_op op_cat (pv 4) (pe_lst pa_nil)) pa_nil))) (pa_cons (pe_lst (pa_cons pe_str (pa_cons (pv 6) pa_nil))) pa_nil))))) (pss_one (ps_ret pe_bl)) pss_nil)
      (pss_one (ps_if (pt_cmpR op_eq (pv 5) pe_int (nomark _)) (pss_one (ps_set (i := 3) sclaw.nd rfl (Or.inl rfl) (pe_cal (E := E0) C__law_shuffled (hr.mono (by decide)) pass0 (pa_cons (pv 1) (pa_cons (pv 3) pa_nil))))) (pss_cons (ps_set (i := 3) sclaw.nd rfl (Or.inl rfl) (pe_op op_cat (pv 3) (pe_cal (E := E0) C__law_clauses (hr.mono (by decide)) pass0 (pa_cons (pv 1) (pa_cons (pv 2) (pa_cons pe_int pa_nil))))))
      (pss_one (ps_set (i := 4) sclaw.nd rfl (Or.inr rfl) (pe_op op_cat (pv 4) (pe_lc (own := [("one", 9)]) (g := gName 9) rfl sclaw.nd (piL (K := K) (pe_cal (E := E0) C__law_some (hr.mono (by decide)) pass0 (pa_cons (pv 1) (pa_cons (pv 2) (pa_cons pe_int pa_nil))))) (blkOk_by (N := Nlaw) (sc := defScope (top 58)) (by decide +kernel)) (fun _ _ _ _ _ => (pg_name (i := 9) sclaw.nd rfl (Or.inl rfl))) (fun _ _ _ _ _ => pts_one (PW.pt (pw_and (pt_cmpR (Hx.op_notInD (hu65 hr)) (pv 9) (pv 4) (by first | exact nomark _ | rfl)) (pw_and1 (pt_cmpR (Hx.op_notInD (hu65 hr)) (pe_cal (E := E0) C__law_denied (hr.mono (by decide)) pass0 (pa_cons (pv 9) pa_nil)) (pv 4) (by first | exact nomark _ | rfl)))))) (fun _ _ _ _ _ => (pv 9)))))))))))))))))
      (pss_cons (ps_if (pt_not (pt_val (pe_cal (E := E0) C__law_chains (hr.mono (by decide)) pass0 (pa_cons (pv 1) pa_nil)))) (pss_one (ps_ret pe_bl)) pss_nil)
      (pss_one (ps_ret (pe_cal (E := E0) C__law_refusals (hr.mono (by decide)) pass0 (pa_cons (pv 1) (pa_cons (pv 3) (pa_cons (pv 4) (pa_cons (pv 2) pa_nil))))))))))))), ?_⟩
  refine ⟨_, rfl, sc, sn, rfl, hsc, hsl, fun s L H1 _ _ _ st1 => ?_⟩
  have g0 : Ga s L (fun a => if a = s then none else H1 a) H1 (fun a => if a = s then none else H1 a) H1 := Ga.refl (fun a o h => by
    by_cases e : a = s
    · rw [if_pos e] at h; cases h
    · rw [if_neg e] at h; exact h) st1 (if_pos rfl)
  generalize (fun a => if a = s then none else H1 a) = G0 at g0
  -- atoms, rows, literals
  refine ⟨_, rfl, _, rfl, s, L, 6, 11, rfl, st1, by decide, by decide, fun m H2 m0 m1 kp2 st2 => ?_⟩
  obtain ⟨m, rfl⟩ : ∃ n : Nat, m = (n : Int) := ⟨m.toNat, by omega⟩
  have g2 := g0.next kp2 st2
  refine ⟨s, L, m, G0, rfl, st2, g2.ge, g2.gs, by omega, fun pa us ds G3 H3 b3 hpa hds hat hdl => ?_⟩
  have g3 := g2.trans b3
  refine ⟨_, rfl, _, rfl, _, rfl, szl 4 (by omega), fun t4 ht4 => ?_⟩
  have g4 := g3.lay ht4 (o := .tup [.int 3, .int 9, .int 18, .int 26])
  refine ⟨s, L, t4, _, rfl, g4.st, .inr (SqT.of upd_same), g3.no ht4, by simp, by simp, fun j5 x5 H5 hx5 kp5 st5 => ?_⟩
  obtain ⟨up, rfl, hup⟩ : ∃ n : Nat, x5 = V.int (n : Int) ∧ n ≤ 26 := by
    have hm := List.mem_of_getElem? hx5
    simp only [List.mem_cons, List.not_mem_nil, or_false] at hm
    rcases hm with rfl | rfl | rfl | rfl
    · exact ⟨3, rfl, by omega⟩
    · exact ⟨9, rfl, by omega⟩
    · exact ⟨18, rfl, by omega⟩
    · exact ⟨26, rfl, by omega⟩
  have g5 := g4.next kp5 st5
  refine ⟨s, L, pa, us, ds, up, G3, rfl, st5, g5.ge, g5.gs, hpa, hds, hat, by omega, by omega, fun pr xs rs G6 H6 b6 hpr hxs hrs hrl => ?_⟩
  have g6 := g5.trans b6
  refine ⟨_, rfl, _, rfl, s, L, pa, us, ds, 3, G6, rfl, g6.st, g6.ge, g6.gs, b6.gg _ _ hpa, ex_dta b6.gg hds, hat, by omega, fun pl ys ls G7 H7 b7 hpl hys hls hll => ?_⟩
  have g7 := g6.trans b7
  refine ⟨_, rfl, by omega, by omega, ?_⟩
  refine for_it walk_range (fun i σ' H' => ∃ pr pl tv dv gv lv G' xs ys rs ls, σ' = [some (.ref sc), some (.ref s), some (.ref pa), some (.ref pr), some (.ref pl), tv, dv, gv, lv, none] ∧ Ga s L G0 H1 G' H' ∧ Ex G3 G' ∧ G' pr = some (.lst xs) ∧ DtAll G' xs (rs.map PyData.tuple) ∧ RowsN rs ∧ rs.length ≤ 26 + 4 * i ∧ G' pl = some (.lst ys) ∧ DtAll G' ys ls ∧ LitsN ls ∧ ls.length ≤ 3 + 2 * i)
    ⟨pr, pl, none, none, none, none, G7, xs, ys, rs, ls, rfl, g7, b6.gg.trans b7.gg, b7.gg _ _ hpr, ex_dta b7.gg hxs, hrs, by omega, hpl, hys, hls, by omega⟩ (fun _ _ _ _ _ => trivial) ?_ ?_
  · clear hpr hxs hrs hrl hpl hys hls hll g7 b7 g6 b6
    rintro i x σ' H' H'' hi ⟨pr, pl, tv, dv0, gv0, lv0, G, xs, ys, rs, ls, rfl, g, e3, hpr, hxs, hrs, hrl, hpl, hys, hls, hll⟩ ⟨rfl, rfl⟩
    have hi : i < 3 := by simpa using hi
    have hrow : ∀ r ∈ rs, rowD (.tuple r) = true := fun r hr => (hrs r hr).1
    have xl := dta_len hxs
    rw [List.length_map] at xl
    have yl := dta_len hys
    have hrsd : Dt G (.ref pr) (.list (rs.map PyData.tuple)) := .lst hpr hxs
    have hlsd : Dt G (.ref pl) (.list ls) := .lst hpl hys
    have z1 : ∀ x, PyData.list (rs.map PyData.tuple) = .list x → x.length ≤ 100000 := fun x h => by injection h with h; rw [← h, List.length_map]; omega
    have z2 : ∀ x, PyData.list ls = .list x → x.length ≤ 2000 := fun x h => by injection h with h; rw [← h]; omega
    have hsum : (rs.map List.length).sum ≤ 2000 := Nat.le_trans (sum_le (k := 6) fun r hr => (hrs r hr).2) (by omega)
    have hask := ask_told hrow hls.lits (by omega) hsum
    have htn := told_nodes (lits := ls) hrow (by omega)
    -- due
    refine ⟨_, rfl, _, rfl, .ref pr, .ref pl, rs, ls, rfl, ex_dt g.ge _ _ hrsd, ex_dt g.ge _ _ hlsd, fun r hr => ⟨(hrs r hr).1, by have := (hrs r hr).2; omega⟩, hls.1, by omega, by omega, fun dv HB eB hdv => ?_⟩
    have gB := g.ex eB
    -- given, told
    refine ⟨_, rfl, pr, xs, rfl, .inl (SqL.of (gB.ge _ _ hpr)), fun gv hgv => ?_⟩
    have e1 := Evl.Ex.new hgv (o := .lst xs)
    refine ⟨_, rfl, _, rfl, szl 0 (by omega), fun p2 hp2 => ?_⟩
    have e2 := e1.trans (Evl.Ex.new hp2 (o := .lst []))
    have hgv2 : upd (upd HB gv (.lst xs)) p2 (.lst []) gv = some (.lst xs) := Evl.Ex.new hp2 _ _ upd_same
    have hn2 : upd (upd HB gv (.lst xs)) p2 (.lst []) p2 = some (.lst []) := upd_same
    generalize upd (upd HB gv (.lst xs)) p2 (.lst []) = Hb at e2 hgv2 hn2
    refine ⟨pl, p2, ys, [], rfl, rfl, e2 _ _ (gB.ge _ _ hpl), hn2, szl _ (by simp; omega), fun p3 hp3 => ?_⟩
    have e3' := Evl.Ex.new hp3 (o := .lst (ys ++ []))
    have hgv3 := e3' _ _ hgv2
    have hp33 : upd Hb p3 (.lst (ys ++ [])) p3 = some (.lst ys) := by rw [List.append_nil]; exact upd_same
    have eB3 := e2.trans e3'
    generalize upd Hb p3 (.lst (ys ++ [])) = Hc at e3' hgv3 hp33 eB3
    have gc := gB.ex eB3
    refine ⟨.ref gv, .ref p3, .list (rs.map PyData.tuple), .list ls, rfl, .lst hgv3 (ex_dta gc.ge hxs), .lst hp33 (ex_dta gc.ge hys), z1, z2, fun tv4 H4 e4 htv ans => ?_⟩
    obtain ⟨tp, f, rfl, htp, htp0, fp, wd, l, zs, rest, dz, drest, rfl, hres, hfp, hl0, hl, hzs, hrest⟩ := ans _ hask
    rw [hask] at htv
    have eB4 := eB3.trans e4
    have hgv4 := e4 _ _ hgv3
    have hgvB : HB gv = none := hgv
    have hlB : HB l = none := Evl.fresh_back eB3 hl0
    have ngl : gv ≠ l := ne_of_none hgv3 hl0
    have hzl := dta_len hzs
    have hdz := res_shape hrow hres
    -- as due
    refine ⟨fun σ' H' => σ' = [some (.ref sc), some (.ref s), some (.ref pa), some (.ref pr), some (.ref pl), some (.int (0 + (i : Int))), some dv, some (.ref gv), some (.ref tp), none] ∧ Ex H4 H', ?_, ?_⟩
    · refine ⟨_, rfl, _, rfl, szl 2 (by omega), fun t5 ht5 => ?_⟩
      have e5 := Evl.Ex.new ht5 (o := .lst [.str "told", dv])
      refine ⟨.ref tp, .ref t5, _, rfl, ex_dt e5 _ _ htv, .lst upd_same (.cons (.str _) (.cons (ex_dt (eB4.trans e5) _ _ hdv) .nil)), htn, fun H6 e6 => ⟨_, rfl, ?_⟩⟩
      refine ite2 (fun h => absurd h (by decide)) (fun _ => ?_)
      have e46 := e5.trans e6
      have ge6 := gB.ge.trans (eB4.trans e46)
      refine ⟨_, rfl, _, rfl, .ref gv, .ref pr, .list (rs.map PyData.tuple), rfl, .lst (e46 _ _ hgv4) (ex_dta ge6 hxs), ex_dt ge6 _ _ hrsd, rows_nodes hrs (by omega), fun H7 e7 => ⟨_, rfl, ?_⟩⟩
      exact ite2 (fun h => absurd h (by decide)) (fun _ => ⟨rfl, e46.trans e7⟩)
    rintro σ' H7 ⟨rfl, e47⟩
    -- what is returned changes
    have hl7 := e47 _ _ hl
    refine ⟨_, rfl, tp, _, 1, _, rfl, rfl, SqL.of (e47 _ _ htp), rfl, fp, _, 1, .ref l, rfl, rfl, SqT.of (e47 _ _ hfp), at_nat (i := 1) rfl, .inl ⟨rfl, _, SqL.of hl7⟩, _, rfl, szl 2 (by omega), fun t8 ht8 => ?_⟩
    have e8 := Evl.Ex.new ht8 (o := .tup [.ref pl, .int 5])
    have hl8 := e8 _ _ hl7
    refine ⟨l, zs, _, rfl, rfl, hl8, Nat.lt_of_le_of_lt (show zs.length ≤ 1000 by omega) (sz _ (by omega)), ?_⟩
    have eB8 : Ex HB _ := ex_mut ((eB4.trans e47).trans e8) hlB (o := .lst (zs ++ [.ref t8]))
    have hgv8 : upd (upd H7 t8 (.tup [.ref pl, .int 5])) l (.lst (zs ++ [.ref t8])) gv = some (.lst xs) := by rw [upd_ne ngl]; exact e8 _ _ (e47 _ _ hgv4)
    generalize upd (upd H7 t8 (.tup [.ref pl, .int 5])) l (.lst (zs ++ [.ref t8])) = H8 at eB8 hgv8
    -- what was passed changes
    refine ⟨fun σ' H' => σ' = [some (.ref sc), some (.ref s), some (.ref pa), some (.ref pr), some (.ref pl), some (.int (0 + (i : Int))), some dv, some (.ref gv), some (.ref tp), none] ∧ Ex HB H', ?_, ?_⟩
    · refine ⟨_, rfl, gv, xs, rfl, .inl (SqL.of hgv8), _, 0, rfl, rfl, _, rfl, ?_⟩
      refine ite2 (fun h => ?_) (fun _ => ⟨rfl, eB8⟩)
      have h := of_decide_eq_true h
      have hx : xs[xs.length - 1]? = some (xs[xs.length - 1]'(by omega)) := List.getElem?_eq_getElem _
      exact ⟨_, rfl, .inl ⟨rfl, _, SqL.of hgv8⟩, gv, xs, _, rfl, rfl, hgv8, hx, rfl, ex_mut eB8 hgvB⟩
    rintro σ' H9 ⟨rfl, eB9⟩
    have g9 := gB.ex eB9
    -- asked again
    refine ⟨_, rfl, pr, xs, rfl, .inl (SqL.of (g9.ge _ _ hpr)), fun p10 hp10 => ?_⟩
    have e10 := Evl.Ex.new hp10 (o := .lst xs)
    have h10 : upd H9 p10 (.lst xs) p10 = some (.lst xs) := upd_same
    have g10 := g9.ex e10
    generalize upd H9 p10 (.lst xs) = H10 at e10 h10 g10
    refine ⟨_, rfl, szl 0 (by omega), fun p11 hp11 => ?_⟩
    have e11 := Evl.Ex.new hp11 (o := .lst [])
    have h11 : upd H10 p11 (.lst []) p11 = some (.lst []) := upd_same
    have g11 := g10.ex e11
    have h10 := e11 _ _ h10
    generalize upd H10 p11 (.lst []) = H11 at e11 h11 g11 h10
    refine ⟨pl, p11, ys, [], rfl, rfl, g11.ge _ _ hpl, h11, szl _ (by simp; omega), fun p12 hp12 => ?_⟩
    have e12 := Evl.Ex.new hp12 (o := .lst (ys ++ []))
    have h12 : upd H11 p12 (.lst (ys ++ [])) p12 = some (.lst ys) := by rw [List.append_nil]; exact upd_same
    have g12 := g11.ex e12
    have h10 := e12 _ _ h10
    generalize upd H11 p12 (.lst (ys ++ [])) = H12 at e12 h12 g12 h10
    refine ⟨.ref p10, .ref p12, .list (rs.map PyData.tuple), .list ls, rfl, .lst h10 (ex_dta g12.ge hxs), .lst h12 (ex_dta g12.ge hys), z1, z2, fun v13 H13 e13 hv13 _ => ?_⟩
    rw [hask] at hv13
    have g13 := g12.ex e13
    refine ⟨_, rfl, szl 2 (by omega), fun t14 ht14 => ?_⟩
    have e14 := Evl.Ex.new ht14 (o := .lst [.str "told", dv])
    have eB14 := eB9.trans (e10.trans (e11.trans (e12.trans (e13.trans e14))))
    refine ⟨v13, .ref t14, _, rfl, ex_dt e14 _ _ hv13, .lst upd_same (.cons (.str _) (.cons (ex_dt eB14 _ _ hdv) .nil)), htn, fun H15 e15 => ⟨_, rfl, ?_⟩⟩
    refine ite2 (fun h => absurd h (by decide)) (fun _ => ?_)
    have g15 := (g13.ex e14).ex e15
    -- the next turn
    refine ⟨_, rfl, rfl, _, rfl, ?_⟩
    refine ite2 (fun _ => ?_) (fun _ => ?_)
    · have nps : pr ≠ s := fun e => by have := g15.gs; rw [← e, hpr] at this; cases this
      refine ⟨_, rfl, _, rfl, s, L, pr, xs, rfl, g15.st, SqL.of (g15.ge _ _ hpr), nps, by omega, fun p16 us2 H16 hp16 kp16 st16 hp16' pm => ?_⟩
      obtain ⟨ds2, pd, hus2⟩ := dta_perm pm hxs
      obtain ⟨rs2, prs, rfl⟩ := perm_map pd rfl
      have g16 := (g15.next kp16 st16).fix (g15.dm hp16) hp16'
      have e16 : Ex G _ := Evl.Ex.new (p := p16) (o := .lst us2) (Evl.fresh_back g15.ge hp16)
      exact ⟨p16, pl, _, _, _, _, _, us2, ys, rs2, ls, rfl, g16, e3.trans e16, upd_same, ex_dta e16 hus2, fun r hr => hrs r (prs.mem_iff.mp hr), by rw [prs.length_eq]; omega, e16 _ _ hpl, ex_dta e16 hys, hls, by omega⟩
    · refine ⟨_, rfl, _, rfl, _, rfl, s, L, pa, us, ds, 4, G, rfl, g15.st, g15.ge, g15.gs, e3 _ _ hpa, ex_dta e3 hds, hat, by omega, by omega, fun p16 xs2 rs2 G16 H16 b16 hp16 hxs2 hrs2 hrl2 => ?_⟩
      have g16 := g15.trans b16
      have xl2 := dta_len hxs2
      rw [List.length_map] at xl2
      refine ⟨pr, p16, xs, xs2, rfl, rfl, g16.ge _ _ (b16.gg _ _ hpr), g16.ge _ _ hp16, szl _ (by omega), fun p17 hp17 => ?_⟩
      have g17 := g16.new hp17 (o := .lst (xs ++ xs2))
      have e17 : Ex G16 _ := g16.fr hp17 (o := .lst (xs ++ xs2))
      have h17 : upd G16 p17 (.lst (xs ++ xs2)) p17 = some (.lst (xs ++ xs2)) := upd_same
      generalize upd G16 p17 (.lst (xs ++ xs2)) = G17 at g17 e17 h17
      generalize upd H16 p17 (.lst (xs ++ xs2)) = H17 at g17
      have x17 := b16.gg.trans e17
      refine ⟨_, rfl, _, rfl, _, rfl, s, L, pa, us, ds, 2, G17, rfl, g17.st, g17.ge, g17.gs, x17 _ _ (e3 _ _ hpa), ex_dta (e3.trans x17) hds, hat, by omega, fun p18 xs3 ls3 G18 H18 b18 hp18 hxs3 hls3 hll3 => ?_⟩
      have g18 := g17.trans b18
      have xl3 := dta_len hxs3
      have x18 := x17.trans b18.gg
      have hpl18 := x18 _ _ hpl
      have hys18 := ex_dta x18 hys
      refine ⟨p18, rfl, ⟨xs3, SqL.of (g18.ge _ _ hp18)⟩, fun D hD => ?_⟩
      refine lcF (K := K) walk_list (fun H' e => SqL.of (e _ _ (g18.ge _ _ hp18))) (by omega) (fun j => newB ls (ls3.getD j .none)) (fun j => xs3.getD j .non) (fun j => [some (.ref sc), some (.ref s), some (.ref pa), some (.ref p17), some (.ref pl), some (.int (0 + (i : Int))), some dv, some (.ref gv), some (.ref tp), some (xs3.getD j .non)])
        (fun j u G' H' H'' hj a' yy Q q => turn_name (σ0 := [some (.ref sc), some (.ref s), some (.ref pa), some (.ref p17), some (.ref pl), some (.int (0 + (i : Int))), some dv, some (.ref gv), some (.ref tp), none]) (j := 9) a' yy (by rw [List.getD_eq_getElem?_getD]; simp [hj]) q) (fun _ _ => rfl) (fun j H' hj e Q q => ?_) (fun j H' hj _ e Q q => ⟨_, rfl, q H' (Evl.Ex.refl _)⟩) hD (fun H19 e19 _ hq => ?_)
      · have hx : xs3[j]? = some (xs3.getD j .non) := by rw [List.getD_eq_getElem?_getD, List.getElem?_eq_getElem hj]; rfl
        obtain ⟨dj, hdj, htj⟩ := dta_get hxs3 hx
        have hgd : ls3.getD j .none = dj := by rw [List.getD_eq_getElem?_getD, hdj]; rfl
        rw [hgd] at q
        have lj := hls3.1 dj (List.mem_of_getElem? hdj)
        have ge := g18.ge.trans e
        refine ⟨_, rfl, _, rfl, pl, ys, ls, dj, rfl, .inl (ge _ _ hpl18), ex_dta ge hys18, lits_keys hls.1, ex_dt ge _ _ htj, (lit_key lj).1, by have := (lit_key lj).2.1; omega, _, rfl, ?_⟩
        rw [if_pos rfl]
        cases hb : (ls.any fun e => PyData.eqv e dj) with
        | true =>
          rw [if_neg (by decide)]
          have : newB ls dj = false := by unfold newB; rw [hb]; rfl
          rw [this] at q
          exact q H' (Evl.Ex.refl _)
        | false =>
          rw [if_pos (by decide)]
          obtain ⟨rl, x, ad, b, e1, hr1, hxa, hat', rfl⟩ := lit_at (ex_dt ge _ _ htj) lj
          refine ⟨_, rfl, rl, x, b, congrArg (fun z => [z]) e1, hr1, fun p hp => ?_⟩
          have ep := Evl.Ex.new hp (o := .tup [x, .bl (!b)])
          have gp := ge.trans ep
          have ln : litD (.tuple [ad, .bool (!b)]) = true := by simp [litD, isT, hat']
          refine ⟨_, rfl, pl, ys, ls, .tuple [ad, .bool (!b)], rfl, .inl (gp _ _ hpl18), ex_dta gp hys18, lits_keys hls.1, dtl upd_same (ex_dt ep _ _ hxa), (lit_key ln).1, by have := (lit_key ln).2.1; omega, _, rfl, ?_⟩
          rw [if_pos rfl]
          have : newB ls (.tuple [ad, .bool b]) = !(ls.any fun e => PyData.eqv e (.tuple [ad, .bool (!b)])) := by
            unfold newB; rw [hb]; rfl
          rw [this] at q
          exact q _ ep
      · have g19 := (g18.ex e19).fix (g18.dm hD) hq
        have x19 : Ex G18 _ := Evl.Ex.new (p := D) (o := .lst (((List.range xs3.length).filter fun j => newB ls (ls3.getD j .none)).map fun j => xs3.getD j .non)) (Evl.fresh_back g18.ge hD)
        have hnew : DtAll G18 (((List.range xs3.length).filter fun j => newB ls (ls3.getD j .none)).map fun j => xs3.getD j .non) (ls3.filter (newB ls)) := by
          have hf : ls3.filter (newB ls) = ((List.range ls3.length).filter fun j => newB ls (ls3.getD j .none)).map fun j => ls3.getD j .none := by
            conv => lhs; rw [← show (List.range ls3.length).map (fun j => ls3.getD j .none) = ls3 by have := range_map ls3 .none (fun x => x); rw [List.map_id'] at this; exact this, List.filter_map]
            rfl
          rw [hf, xl3]
          refine dta_mapi _ fun j hj => ?_
          have hj := List.mem_range.mp (List.mem_filter.mp hj).1
          obtain ⟨dj, hdj, htj⟩ := dta_get hxs3 (i := j) (v := xs3.getD j .non) (by rw [List.getD_eq_getElem?_getD, List.getElem?_eq_getElem (by omega)]; rfl)
          rw [show ls3.getD j .none = dj by rw [List.getD_eq_getElem?_getD, hdj]; rfl]
          exact htj
        generalize hws : ((List.range xs3.length).filter fun j => newB ls (ls3.getD j .none)).map (fun j => xs3.getD j .non) = ws at hq g19 x19 hnew
        have wl := dta_len hnew
        have wl2 := List.length_filter_le (newB ls) ls3
        refine ⟨pl, D, ys, ws, rfl, rfl, e19 _ _ (g18.ge _ _ hpl18), hq, szl _ (by omega), fun p20 hp20 => ?_⟩
        have g20 := g19.new hp20 (o := .lst (ys ++ ws))
        have e20 : Ex _ _ := g19.fr hp20 (o := .lst (ys ++ ws))
        have x20 := x19.trans e20
        have xall := x18.trans x20
        refine ⟨p17, p20, _, _, _, _, _, xs ++ xs2, ys ++ ws, rs ++ rs2, ls ++ ls3.filter (newB ls), rfl, g20, e3.trans xall, (b18.gg.trans x20) _ _ h17, ?_, fun r hr => ?_, by rw [List.length_append]; omega, upd_same, Hx.dta_app (ex_dta xall hys) (ex_dta x20 hnew), lits_more hls hls3, by rw [List.length_append]; omega⟩
        · rw [List.map_append]
          exact Hx.dta_app (ex_dta xall hxs) (ex_dta ((e17.trans b18.gg).trans x20) hxs2)
        · rcases List.mem_append.mp hr with hr | hr
          · exact hrs r hr
          · exact hrs2 r hr
  · rintro σ' H' ⟨pr, pl, tv, dv, gv, lv, G', xs, ys, rs, ls, rfl, g, e3, hpr, hxs, hrs, hrl, hpl, hys, hls, hll⟩
    have hrl : rs.length ≤ 26 + 4 * 3 := hrl
    have hll : ls.length ≤ 3 + 2 * 3 := hll
    refine ⟨_, rfl, s, L, G', rfl, g.st, g.ge, g.gs, fun G5 H5 b5 => ⟨_, rfl, ?_⟩⟩
    refine ite2 (fun h => absurd h (by decide)) (fun _ => ?_)
    have g5 := g.trans b5
    exact ⟨_, rfl, _, rfl, _, rfl, _, rfl, s, L, pa, pr, pl, us, xs, ys, ds, ls, rs, G5, rfl, g5.st, g5.ge, g5.gs, b5.gg _ _ (e3 _ _ hpa), ex_dta (e3.trans b5.gg) hds, hat, by omega, b5.gg _ _ hpr, ex_dta b5.gg hxs, hrs, by omega, b5.gg _ _ hpl, ex_dta b5.gg hys, hls, by omega, fun H6 => q H6⟩
end
end K21
namespace K21
open PySem PySem.Spec PyProof.Rows L2 Hx Hd M21
theorem all_law {P : Program} {w : World} {K : PySem.W.Frag} {mg : Str → Option Value} {base : Heap} (T : Txt K mg) {fd : FuncData} (F : FunD K "law" "law" (defArgs (top 58)) (defBody (top 58)) (defScope (top 58)) [] [] (He.ga K "law") fd) : FnOk P w K mg base CX0 9 (He.ga K "law") fd ["script"] (spLaw K) := by
  have cLit := ok_lit (P := P) (w := w) (base := base) T (ok_atom T (ok_step T))
  have cDen := ok_den (P := P) (w := w) (base := base) T
  have mSort := ok_sort (P := P) (w := w) (base := base) T
  have mStand := ok_stand T (ok_turn T cDen mSort)
  have mSpare := ok_spare T (ok_open (P := P) (w := w) (base := base) T cDen)
  have mInit := ok_init T (ok_enter T cDen mSort)
  have cForced := ok_forced T (ok_chkr T (ok_rowf T cLit)) (ok_chkl T (ok_lits T cLit)) (ok_chks T) (ok_goes T mInit mStand mSpare)
  have cNext := ok_next (P := P) (w := w) (base := base) T
  have cStream := ok_stream (P := P) (w := w) (base := base) T
  have cPick := ok_pick T cNext
  have cPickS := ok_pickS T cNext
  have cShuf := ok_shuf T cNext
  have cFrom := ok_from T cNext
  have cSame := ok_same (P := P) (w := w) (base := base) T
  have cCopy := ok_copyS T (ok_copyS T (ok_copyS T (ok_copyS T (ok_copyS T (ok_copy0 (P := P) (w := w) (base := base) T)))))
  have cLden := ok_lden (P := P) (w := w) (base := base) T
  have cAtoms := ok_atomsL T (ok_atomL T cNext cPickS)
  have cClause := ok_clause T cNext cPick cFrom
  have cClauses := ok_clauses T cNext cClause
  have cSome := ok_someL T cNext cShuf
  have cBadLit := ok_badlit T cNext cPick
  have cBadRow := ok_badrow T cNext cPick cClause cBadLit
  have cBadRows := ok_badrows T cNext cPick cBadRow
  have cBadLits := ok_badlits T cNext cPick cLden cBadLit
  have cAsk := ok_ask T cForced
  have cGreat := ok_great T cNext
  have cSteps := ok_steps T (ok_deed T cLden)
  have cChain := ok_chain T cNext cPickS cLden cShuf
  have cChains := ok_chains T cNext cFrom cChain cLden cAsk cSame
  have cRefus := ok_refus T cNext cBadRows cBadLits cGreat cCopy cLden cAsk cSame
  exact ok_law T F cStream cNext cPick cFrom cShuf cAtoms cClauses cSome cSteps cAsk cSame cLden cChains cRefus
theorem facts {P : Program} {w w' : World} {K : PySem.W.Frag} {h : Heap} {mg : Str → Option Value} {f : Addr} (X : K.In h) (G : h.Ns mainGlobals mg) (hfa : mg ("law" : Str) = some (.ref f)) (c : He.SaysX fa fn [] [] ex w' h K) :
    ∃ fd : FuncData, (∀ (s : Shared) (v : Value), BindsTo s fd ⟨[v], []⟩ [("script", v)]) ∧ ∀ base : Heap, K.In base → base.Ns mainGlobals mg → FnOk P w K mg base CX0 9 f fd ["script"] (spLaw K) := by
  have T := txt_of X G c
  obtain ⟨fd, F⟩ := T.d_law
  have e := hfa.symm.trans T.g_law
  cases e
  have b := FunD.bindsA (ps := ["script"]) F fun _ _ _ _ _ _ us hl => match us, hl with | [_], _ => rfl
  exact ⟨fd, fun s v => b s [v] rfl, fun base _ _ => all_law T F⟩
end K21
open PySem PySem.W PySem.Calls PyProof.Rows
theorem PySem.Challenge.cw_holdtogether_k21_what_goes_along_holds : PySem.Challenge.rw_holdtogether_k21_what_goes_along.Holds := by
  w_on; o_law
  refine HandSHeadRun.head_any (r := OpenLaw.row PySem.Challenge.rw_holdtogether_k21_what_goes_along) (q := view (OpenLaw.row PySem.Challenge.rw_holdtogether_k21_what_goes_along).prog [58]) (H := Hd.hk) (ob := Hd.ob) (M := 7000) (loose := Hd.loose) (d := HandSHeadRun.topDef (OpenLaw.row PySem.Challenge.rw_holdtogether_k21_what_goes_along).prog 58) (kwd := []) Hd.ob_eq
    (by kernel_rfl) (fun s => by kernel_rfl) Hd.run (by kernel_rfl) (by kernel_rfl) (by kernel_rfl) (by rfl) (by first | assumption | decide +kernel) (by decide +kernel) ⟨rfl, rfl, rfl, rfl, rfl, by decide +kernel⟩ ?hw ?hc
  case hw => w_witness2
  case hc =>
    refine L2.walk_ofE (l := PySem.Challenge.rw_holdtogether_k21_what_goes_along) (n := 63) (k := 9) (x := "script") (CX := L2.CX0) rfl (by decide) (by kernel_rfl) ⟨rfl, by decide, by decide⟩ ?F (fun _ _ _ _ z => z)
    intro w mg fa h Y G hmg0
    obtain ⟨K, KX, c⟩ := Y
    have hmg : mg ("law" : PySem.Str) = some (.ref fa) := by
      have e : (HandSHeadRun.topDef (OpenLaw.row PySem.Challenge.rw_holdtogether_k21_what_goes_along).prog 58).name = ("law" : PySem.Str) := by kernel_rfl
      rw [← e]
      exact hmg0
    obtain ⟨fd, hb, hF⟩ := K21.facts (P := (PySem.Challenge.rw_holdtogether_k21_what_goes_along).prog) (w := w) KX G hmg c
    exact ⟨K, fd, K21.spLaw K, KX, hb, fun H a ns hl _ hS => ⟨a, ns, rfl, hS, hl, fun _ => rfl⟩, hF⟩
